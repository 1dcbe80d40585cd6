import PyProof.Rows.All
import Wide.All
import OpenK.AllK
import Wide.FinOn
import KE.KNestM
import Lean
import PySem.Challenge.RW_nu0080_01
set_option Elab.async false
set_option maxRecDepth 1000000
set_option linter.all false
set_option linter.unusedVariables false
set_option bootstrap.genMatcherCode false
open And renaming intro->ae
open Array renaming getElem?_eq_some_iff->oG,mk->y5,toList_append->Bd,any_toList->Bu,length_toList->Hp
open Bool renaming and_eq_true->cc,or_eq_true->jk,and_eq_true_iff->jP,false_ne_true->xS,not_eq_true'->xV,eq_iff_iff->BD,and_false->IC
open Classical renaming choose->Hv,choose_spec->Pl
open Eq renaming refl->aH,symm->eG
open ForInStep renaming yield->rF
open Int renaming ofNat->lq,natCast_nonneg->rD,ofNat_le->tN,eq_ofNat_of_zero_le->u6,ofNat_lt->yy,negSucc->yA,negSucc_lt_zero->Bf,max_eq_right->By,min_eq_left->BE,fmod_nonneg_of_pos->Hi,fmod_lt_of_pos->HE,ofNat_succ_pos->HF,natCast_pos->IA
open Int.NonNeg renaming mk->vA
open List renaming casesOn->aQ,length_append->bk,append_assoc->bM,mem_cons->cU,isPrefixOf->dh,append_nil->di,length_cons->dJ,length->ew,mem_cons_self->fJ,lookup_cons->gh,ctorIdx->gq,length_map->gK,mem_singleton->iD,mem_cons_of_mem->jj,mem_filterMap->jQ,nodup_cons->jS,all_append->lW,all_cons->lY,length_drop->nN,find?_cons->nO,map_cons->nQ,length_singleton->oJ,filterMap_cons->oM,filter_cons->oN,mem_append_right->pU,length_take->pY,all_eq_true->pZ,isPrefixOf_iff_prefix->rx,drop_eq_nil_iff->rz,mem_map_of_mem->rA,pairwise_cons->rB,zip_cons_cons->rC,length_nil->rH,mem_append->rJ,drop_zero->rK,take_append_drop->tC,reverse_cons->tE,drop_drop->tJ,take_of_length_le->u9,cons_append->vj,take_length->vk,not_mem_nil->vn,forIn_cons->vp,nil_append->vt,map_append->vz,mem_append_left->xO,dropLast_concat->xP,isEmpty_iff->xY,take_left->ye,take->y4,getLast?_concat->Bb,size_toArray->Bo,any_eq_true->Bv,map_fst_zip->Bw,take_take->BN,drop_nil->BR,range->C8,eq_nil_of_length_eq_zero->G4,length_eq_zero_iff->Hb,prefix_iff_eq_take->Hc,cons_lt_cons_iff->Hj,of_mem_zip->HZ,drop_take->IB,replicate->ID,mem_map->JB,length_filter_eq_length_iff->OT,take_append_of_le_length->OX,take_subset_take_left->Pk,drop_eq_getElem_cons->Pn,length_filterMap_le->PI,lookup_eq_none_iff->PM,append_eq_nil_iff->Qp
open List.Pairwise renaming nil->Pj
open List.cons renaming inj->BF
open Nat renaming le_refl->bc,beq->bx,le_trans->bC,blt->cE,le_add_left->cJ,le_of_ble_eq_true->dA,le_add_right->dK,not_lt->d8,le_of_not_lt->eN,casesOn->eO,eq_of_beq_eq_true->eS,ble->fG,lt_of_lt_of_le->fK,zero_le->fP,le_of_eq->hZ,ne_of_lt->iE,le_succ->iF,add_zero->jT,le_of_lt->ky,succ->kC,ble_eq_true_of_le->lg,lt_succ_self->mP,min_eq_left->nP,add_lt_add_left->pV,add_sub_of_le->pW,not_lt_zero->qb,lt_irrefl->qe,lt_of_succ_lt_succ->ry,zero_add->rM,ne_of_gt->rN,lt_of_le_of_lt->tD,le_succ_of_le->tG,lt_succ_of_lt->tH,not_le_of_lt->tI,ne_of_beq_eq_false->vd,le_of_add_right_le->ve,sub_eq_zero_of_le->vf,le_of_lt_succ->vi,lt_of_not_le->vo,add_comm->vH,eq_of_le_of_lt_succ->xK,lt_of_lt_of_eq->xT,sub_le->yO,blt_eq->yP,eq_of_lt_succ_of_not_lt->A6,lt_of_add_lt_add_left->A8,add_right_comm->Bn,lt_one_iff->BO,succ_pos->Ce,sub_lt_left_of_lt_add->G8,add_sub_cancel_left->He,lt_of_add_right_lt->Hh,add_left_cancel->Hw,succ_le_of_lt->HG,min_le_right->HX,le_of_not_le->HY,min_le_left->Iw,add_assoc->JA
open Nat.ToInt renaming of_diseq->PN
open Nat.succ renaming inj->yk
open Ne renaming symm->i5
open Option renaming bind_some->jC,bind_eq_some_iff->lV,map_eq_some_iff->mO,map_eq_none_iff->u7,isNone_iff_eq_none->A7
open Option.some renaming inj->jR,injEq->PL
open Prod.mk renaming injEq->lX,inj->Jz
open PyProof.Rows renaming add_int->O8
open PySem renaming Str->ak,Addr->ax,Value->az,wpAny_bind->aF,Shared->aN,Pos->aZ,Env->a9,Heap->bf,wpAny_pure->bq,World->bw,Params->bA,Stmt->bO,Expr->bT,Around->bZ,Program->cB,Obj->cI,OsState->cZ,Scope->fh,wpAny_holding->fy,Model->gT,Stmt->iH,wpAny_standAt->jl,wpAny_field->jE,Flow->j9,NameKind->lu,CmpOp->mw,Result->nq,DictEntry->oR,wpAny_loadPart_at->pX,wpAny_mono->ql,wpAny_setField->rL,Arguments->rY,wpAny_call->tS,Operator->uc,wpAny_isSubtype_exc->vh,wpAny_execs_cons->vw,wpAny_execs_nil->vB,wpAny_release->vG,wpAny_Name->vU,wpAny_newObj_type->xZ,wpAny_loadPart->yl,wpAny_mkText->yB,wpAny_storeName_local->Be,wpAny_loadName_local->Bg,wpAny_letTemporaryGo->Bj,frameOf->BP,codeAny_of_tree->BQ,Comprehension->CD,codeAny_call_builtin->HD,wpAny_truthy_bool->Iz,codeAny_call_def->IE,wpAny_specialOf->Jx,wpAny_ite_false->Jy
open PySem.Builtin.Range renaming rangeSize->G5,rangeFitsLong->OJ,small->O9
open PySem.Builtin.Str renaming strKind->Ba,strKind->OH,subAt->PH
open PySem.Calls renaming Name_function_global->Bh
open PySem.Challenge renaming rw_nu0080_01->A5,pw_nu0080_01->OF
open PySem.Code renaming builtin->lZ,quiet_builtin->Hx
open PySem.Data renaming ctorIdx->jB
open PySem.EntryCells renaming newEntry->Hg
open PySem.Expr renaming casesOn->cR,ctorIdx->Hl
open PySem.F renaming slot_str_split->A9,args_str_split_2->G7,entry_str_split->G9,slot_str_getitem->Pa,slot_str_replace->Pb,slot_list_append->Pc,slot_str_find->PJ,slot_list_pop->PK
open PySem.Heap renaming get?_push_of_some->dF,get?_push_size->hW,lt_size->jD,get?_update_other->kr,get?_update_self->ku,SameBut->kx,ExtBut->nR,size_push->tK,size_update->Bx
open PySem.Heap.SameBut renaming update->xM
open PySem.NameKind renaming ctorIdx->oH,free->H0
open PySem.Obj renaming mapFields->mQ,isFreed_of_fields->xN,data_mapFields->xU,cls_mapFields->Bt
open PySem.PyData renaming keyHash->gm
open PySem.Shared renaming heap->yz
open PySem.Stmt renaming casesOn->vg
open PySem.Str renaming length->l0,ofString->yx,cps_append->IF
open PySem.Txt renaming split->fa
open PySem.Value renaming ref->dn,none->fQ,ctorIdx->oK,builtin->yg,bool->CE
open PySem.W renaming Frag->bz,ownOf->Iy
open PySem.W.Fast renaming te14364793385576792824->A4
open PySem.W.Looks renaming ld->rZ,of_pure->yf
open Sum renaming inr->wj
noncomputable section
section
set_option tactic.hygienic false
set_option genInjectivity false
set_option genSizeOf false
namespace Zq
@[elab_as_elim] theorem rwL {α:Sort _}{b:α}{motive:α->Prop}{a:α}(h:a=b)(m:motive b):motive a:=by subst h;exact m
theorem nS {α:Type _}{a:α}{G:Prop}(h:none=some a):G:=nomatch h
theorem sN {α:Type _}{a:α}{G:Prop}(h:some a=none):G:=nomatch h
theorem fT {G:Prop}(h:false=true):G:=nomatch h
theorem tF {G:Prop}(h:true=false):G:=nomatch h
theorem aG {a b G:Prop}(h:a\/b)(k:a->G)(l:b->G):G:=h.elim k l
theorem pS {a b c G:Prop}(h:a\/b\/c)(k:a->G)(l:b->G)(m:c->G):G:=h.elim k λh=>h.elim l m
theorem Z9 {a b c d G:Prop}(h:a\/b\/c\/d)(k:a->G)(l:b->G)(m:c->G)(n:d->G):G:=h.elim k λh=>pS h l m n
theorem nC {α:Type _}{a b:α}{G:Prop}(f:α->Nat)(e:a=b)(h:bx (f a) (f b)=false):G:=by
 subst e;rw[Nat.beq_refl]at h;cases h
variable {α β γ δ ε ζ η θ ι κ:Type}{G:Prop}
theorem oA {p q:Prop}(h:p/\q)(k:p->q->G):G:=k h.1 h.2
theorem fp {p q r:Prop}(h:p/\q/\r)(k:p->q->r->G):G:=k h.1 h.2.1 h.2.2
theorem nA {p q r s:Prop}(h:p/\q/\r/\s)(k:p->q->r->s->G):G:=k h.1 h.2.1 h.2.2.1 h.2.2.2
theorem zo {p q r s t:Prop}(h:p/\q/\r/\s/\t)(k:p->q->r->s->t->G):G:=k h.1 h.2.1 h.2.2.1 h.2.2.2.1 h.2.2.2.2
theorem zh {p q r s t u:Prop}(h:p/\q/\r/\s/\t/\u)(k:p->q->r->s->t->u->G):G:=k h.1 h.2.1 h.2.2.1 h.2.2.2.1 h.2.2.2.2.1 h.2.2.2.2.2
theorem Sl {p q r s t u v w:Prop}(h:p/\q/\r/\s/\t/\u/\v/\w)(k:p->q->r->s->t->u->v->w->G):G:=k h.1 h.2.1 h.2.2.1 h.2.2.2.1 h.2.2.2.2.1 h.2.2.2.2.2.1 h.2.2.2.2.2.2.1 h.2.2.2.2.2.2.2
theorem Su {p q r:Prop}{s t u:α->β->Prop}(h:p/\q/\r/\∃a b,s a b/\t a b/\u a b)(k:p->q->r->∀a b,s a b->t a b->u a b->G):G:=h.2.2.2.elim λa h3=>h3.elim λb h4=>k h.1 h.2.1 h.2.2.1 a b h4.1 h4.2.1 h4.2.2
theorem U5 {p q:Prop}{r s t:α->Prop}(h:p/\q/\∃a,r a/\s a/\t a)(k:p->q->∀a,r a->s a->t a->G):G:=h.2.2.elim λa h2=>k h.1 h.2.1 a h2.1 h2.2.1 h2.2.2
theorem D1 {p q:Prop}{r:α->β->Prop}(h:p/\q/\∃a b,r a b)(k:p->q->∀a b,r a b->G):G:=h.2.2.elim λa h2=>h2.elim λb h3=>k h.1 h.2.1 a b h3
theorem Kb {p q:Prop}{r s t:α->β->Prop}(h:p/\q/\∃a b,r a b/\s a b/\t a b)(k:p->q->∀a b,r a b->s a b->t a b->G):G:=h.2.2.elim λa h2=>h2.elim λb h3=>k h.1 h.2.1 a b h3.1 h3.2.1 h3.2.2
theorem yI {p q:Prop}{r s t u:α->β->Prop}(h:p/\q/\∃a b,r a b/\s a b/\t a b/\u a b)(k:p->q->∀a b,r a b->s a b->t a b->u a b->G):G:=h.2.2.elim λa h2=>h2.elim λb h3=>k h.1 h.2.1 a b h3.1 h3.2.1 h3.2.2.1 h3.2.2.2
theorem X9 {p:Prop}{q:α->Prop}(h:p/\∃a,q a)(k:p->∀a,q a->G):G:=h.2.elim λa h1=>k h.1 a h1
theorem Xb {p:Prop}{q r:α->Prop}(h:p/\∃a,q a/\r a)(k:p->∀a,q a->r a->G):G:=h.2.elim λa h1=>k h.1 a h1.1 h1.2
theorem LH {p:Prop}{q r s:α->Prop}(h:p/\∃a,q a/\r a/\s a)(k:p->∀a,q a->r a->s a->G):G:=h.2.elim λa h1=>k h.1 a h1.1 h1.2.1 h1.2.2
theorem iq {p:Prop}{q r:α->β->Prop}(h:p/\∃a b,q a b/\r a b)(k:p->∀a b,q a b->r a b->G):G:=h.2.elim λa h1=>h1.elim λb h2=>k h.1 a b h2.1 h2.2
theorem Uc {p:Prop}{q r s:α->β->Prop}(h:p/\∃a b,q a b/\r a b/\s a b)(k:p->∀a b,q a b->r a b->s a b->G):G:=h.2.elim λa h1=>h1.elim λb h2=>k h.1 a b h2.1 h2.2.1 h2.2.2
theorem v7 {p:Prop}{q r s t:α->β->Prop}(h:p/\∃a b,q a b/\r a b/\s a b/\t a b)(k:p->∀a b,q a b->r a b->s a b->t a b->G):G:=h.2.elim λa h1=>h1.elim λb h2=>k h.1 a b h2.1 h2.2.1 h2.2.2.1 h2.2.2.2
theorem kB {p:Prop}{q r s t u:α->β->Prop}(h:p/\∃a b,q a b/\r a b/\s a b/\t a b/\u a b)(k:p->∀a b,q a b->r a b->s a b->t a b->u a b->G):G:=h.2.elim λa h1=>h1.elim λb h2=>k h.1 a b h2.1 h2.2.1 h2.2.2.1 h2.2.2.2.1 h2.2.2.2.2
theorem yj {p:Prop}{q r s t:α->β->Prop}{u:α->β->γ->δ->Prop}(h:p/\∃a b,q a b/\r a b/\s a b/\t a b/\∃c d,u a b c d)(k:p->∀a b,q a b->r a b->s a b->t a b->∀c d,u a b c d->G):G:=h.2.elim λa h1=>h1.elim λb h2=>h2.2.2.2.2.elim λc h7=>h7.elim λd h8=>k h.1 a b h2.1 h2.2.1 h2.2.2.1 h2.2.2.2.1 c d h8
theorem Ir {p:Prop}{q r s t:α->β->γ->δ->Prop}(h:p/\∃a b c d,q a b c d/\r a b c d/\s a b c d/\t a b c d)(k:p->∀a b c d,q a b c d->r a b c d->s a b c d->t a b c d->G):G:=h.2.elim λa h1=>h1.elim λb h2=>h2.elim λc h3=>h3.elim λd h4=>k h.1 a b c d h4.1 h4.2.1 h4.2.2.1 h4.2.2.2
theorem oE {p:α->Prop}(h:∃a,p a)(k:∀a,p a->G):G:=h.elim λa h0=>k a h0
theorem aO {p q:α->Prop}(h:∃a,p a/\q a)(k:∀a,p a->q a->G):G:=h.elim λa h0=>k a h0.1 h0.2
theorem cy {p q r:α->Prop}(h:∃a,p a/\q a/\r a)(k:∀a,p a->q a->r a->G):G:=h.elim λa h0=>k a h0.1 h0.2.1 h0.2.2
theorem qD {p q r s:α->Prop}(h:∃a,p a/\q a/\r a/\s a)(k:∀a,p a->q a->r a->s a->G):G:=h.elim λa h0=>k a h0.1 h0.2.1 h0.2.2.1 h0.2.2.2
theorem Xe {p:α->Prop}{q:α->β->Prop}(h:∃a,p a/\∃b,q a b)(k:∀a,p a->∀b,q a b->G):G:=h.elim λa h0=>h0.2.elim λb h2=>k a h0.1 b h2
theorem fE {p:α->β->Prop}(h:∃a b,p a b)(k:∀a b,p a b->G):G:=h.elim λa h0=>h0.elim λb h1=>k a b h1
theorem dc {p q:α->β->Prop}(h:∃a b,p a b/\q a b)(k:∀a b,p a b->q a b->G):G:=h.elim λa h0=>h0.elim λb h1=>k a b h1.1 h1.2
theorem cj {p q r:α->β->Prop}(h:∃a b,p a b/\q a b/\r a b)(k:∀a b,p a b->q a b->r a b->G):G:=h.elim λa h0=>h0.elim λb h1=>k a b h1.1 h1.2.1 h1.2.2
theorem dT {p q r s:α->β->Prop}(h:∃a b,p a b/\q a b/\r a b/\s a b)(k:∀a b,p a b->q a b->r a b->s a b->G):G:=h.elim λa h0=>h0.elim λb h1=>k a b h1.1 h1.2.1 h1.2.2.1 h1.2.2.2
theorem nV {p q r s t:α->β->Prop}(h:∃a b,p a b/\q a b/\r a b/\s a b/\t a b)(k:∀a b,p a b->q a b->r a b->s a b->t a b->G):G:=h.elim λa h0=>h0.elim λb h1=>k a b h1.1 h1.2.1 h1.2.2.1 h1.2.2.2.1 h1.2.2.2.2
theorem Jw {p q r s t u:α->β->Prop}(h:∃a b,p a b/\q a b/\r a b/\s a b/\t a b/\u a b)(k:∀a b,p a b->q a b->r a b->s a b->t a b->u a b->G):G:=h.elim λa h0=>h0.elim λb h1=>k a b h1.1 h1.2.1 h1.2.2.1 h1.2.2.2.1 h1.2.2.2.2.1 h1.2.2.2.2.2
theorem Ib {p q r s t u v:α->β->Prop}(h:∃a b,p a b/\q a b/\r a b/\s a b/\t a b/\u a b/\v a b)(k:∀a b,p a b->q a b->r a b->s a b->t a b->u a b->v a b->G):G:=h.elim λa h0=>h0.elim λb h1=>k a b h1.1 h1.2.1 h1.2.2.1 h1.2.2.2.1 h1.2.2.2.2.1 h1.2.2.2.2.2.1 h1.2.2.2.2.2.2
theorem P0 {p q r s t u v w:α->β->Prop}(h:∃a b,p a b/\q a b/\r a b/\s a b/\t a b/\u a b/\v a b/\w a b)(k:∀a b,p a b->q a b->r a b->s a b->t a b->u a b->v a b->w a b->G):G:=h.elim λa h0=>h0.elim λb h1=>k a b h1.1 h1.2.1 h1.2.2.1 h1.2.2.2.1 h1.2.2.2.2.1 h1.2.2.2.2.2.1 h1.2.2.2.2.2.2.1 h1.2.2.2.2.2.2.2
theorem Q2 {p q:α->β->Prop}{r s t:α->β->γ->δ->Prop}(h:∃a b,p a b/\q a b/\∃c d,r a b c d/\s a b c d/\t a b c d)(k:∀a b,p a b->q a b->∀c d,r a b c d->s a b c d->t a b c d->G):G:=h.elim λa h0=>h0.elim λb h1=>h1.2.2.elim λc h4=>h4.elim λd h5=>k a b h1.1 h1.2.1 c d h5.1 h5.2.1 h5.2.2
theorem wY {p:α->β->γ->Prop}(h:∃a b c,p a b c)(k:∀a b c,p a b c->G):G:=h.elim λa h0=>h0.elim λb h1=>h1.elim λc h2=>k a b c h2
theorem jI {p q:α->β->γ->Prop}(h:∃a b c,p a b c/\q a b c)(k:∀a b c,p a b c->q a b c->G):G:=h.elim λa h0=>h0.elim λb h1=>h1.elim λc h2=>k a b c h2.1 h2.2
theorem dG {p q r:α->β->γ->Prop}(h:∃a b c,p a b c/\q a b c/\r a b c)(k:∀a b c,p a b c->q a b c->r a b c->G):G:=h.elim λa h0=>h0.elim λb h1=>h1.elim λc h2=>k a b c h2.1 h2.2.1 h2.2.2
theorem mh {p q r s:α->β->γ->Prop}(h:∃a b c,p a b c/\q a b c/\r a b c/\s a b c)(k:∀a b c,p a b c->q a b c->r a b c->s a b c->G):G:=h.elim λa h0=>h0.elim λb h1=>h1.elim λc h2=>k a b c h2.1 h2.2.1 h2.2.2.1 h2.2.2.2
theorem Rc {p q r s t u:α->β->γ->Prop}(h:∃a b c,p a b c/\q a b c/\r a b c/\s a b c/\t a b c/\u a b c)(k:∀a b c,p a b c->q a b c->r a b c->s a b c->t a b c->u a b c->G):G:=h.elim λa h0=>h0.elim λb h1=>h1.elim λc h2=>k a b c h2.1 h2.2.1 h2.2.2.1 h2.2.2.2.1 h2.2.2.2.2.1 h2.2.2.2.2.2
theorem yh {p q r s t u v:α->β->γ->Prop}(h:∃a b c,p a b c/\q a b c/\r a b c/\s a b c/\t a b c/\u a b c/\v a b c)(k:∀a b c,p a b c->q a b c->r a b c->s a b c->t a b c->u a b c->v a b c->G):G:=h.elim λa h0=>h0.elim λb h1=>h1.elim λc h2=>k a b c h2.1 h2.2.1 h2.2.2.1 h2.2.2.2.1 h2.2.2.2.2.1 h2.2.2.2.2.2.1 h2.2.2.2.2.2.2
theorem PD {p q r s t u v w:α->β->γ->Prop}(h:∃a b c,p a b c/\q a b c/\r a b c/\s a b c/\t a b c/\u a b c/\v a b c/\w a b c)(k:∀a b c,p a b c->q a b c->r a b c->s a b c->t a b c->u a b c->v a b c->w a b c->G):G:=h.elim λa h0=>h0.elim λb h1=>h1.elim λc h2=>k a b c h2.1 h2.2.1 h2.2.2.1 h2.2.2.2.1 h2.2.2.2.2.1 h2.2.2.2.2.2.1 h2.2.2.2.2.2.2.1 h2.2.2.2.2.2.2.2
theorem Dy {p:α->β->γ->δ->Prop}(h:∃a b c d,p a b c d)(k:∀a b c d,p a b c d->G):G:=h.elim λa h0=>h0.elim λb h1=>h1.elim λc h2=>h2.elim λd h3=>k a b c d h3
theorem ub {p q:α->β->γ->δ->Prop}(h:∃a b c d,p a b c d/\q a b c d)(k:∀a b c d,p a b c d->q a b c d->G):G:=h.elim λa h0=>h0.elim λb h1=>h1.elim λc h2=>h2.elim λd h3=>k a b c d h3.1 h3.2
theorem oS {p q r:α->β->γ->δ->Prop}(h:∃a b c d,p a b c d/\q a b c d/\r a b c d)(k:∀a b c d,p a b c d->q a b c d->r a b c d->G):G:=h.elim λa h0=>h0.elim λb h1=>h1.elim λc h2=>h2.elim λd h3=>k a b c d h3.1 h3.2.1 h3.2.2
theorem Cs {p q r s:α->β->γ->δ->Prop}(h:∃a b c d,p a b c d/\q a b c d/\r a b c d/\s a b c d)(k:∀a b c d,p a b c d->q a b c d->r a b c d->s a b c d->G):G:=h.elim λa h0=>h0.elim λb h1=>h1.elim λc h2=>h2.elim λd h3=>k a b c d h3.1 h3.2.1 h3.2.2.1 h3.2.2.2
theorem jU {p q r s t:α->β->γ->δ->Prop}(h:∃a b c d,p a b c d/\q a b c d/\r a b c d/\s a b c d/\t a b c d)(k:∀a b c d,p a b c d->q a b c d->r a b c d->s a b c d->t a b c d->G):G:=h.elim λa h0=>h0.elim λb h1=>h1.elim λc h2=>h2.elim λd h3=>k a b c d h3.1 h3.2.1 h3.2.2.1 h3.2.2.2.1 h3.2.2.2.2
theorem BA {p q r s t u v:α->β->γ->δ->Prop}(h:∃a b c d,p a b c d/\q a b c d/\r a b c d/\s a b c d/\t a b c d/\u a b c d/\v a b c d)(k:∀a b c d,p a b c d->q a b c d->r a b c d->s a b c d->t a b c d->u a b c d->v a b c d->G):G:=h.elim λa h0=>h0.elim λb h1=>h1.elim λc h2=>h2.elim λd h3=>k a b c d h3.1 h3.2.1 h3.2.2.1 h3.2.2.2.1 h3.2.2.2.2.1 h3.2.2.2.2.2.1 h3.2.2.2.2.2.2
theorem Hu {p q r s t u v w:α->β->γ->δ->Prop}(h:∃a b c d,p a b c d/\q a b c d/\r a b c d/\s a b c d/\t a b c d/\u a b c d/\v a b c d/\w a b c d)(k:∀a b c d,p a b c d->q a b c d->r a b c d->s a b c d->t a b c d->u a b c d->v a b c d->w a b c d->G):G:=h.elim λa h0=>h0.elim λb h1=>h1.elim λc h2=>h2.elim λd h3=>k a b c d h3.1 h3.2.1 h3.2.2.1 h3.2.2.2.1 h3.2.2.2.2.1 h3.2.2.2.2.2.1 h3.2.2.2.2.2.2.1 h3.2.2.2.2.2.2.2
theorem Bc {p q r s t u v w x y:α->β->γ->δ->Prop}(h:∃a b c d,p a b c d/\q a b c d/\r a b c d/\s a b c d/\t a b c d/\u a b c d/\v a b c d/\w a b c d/\x a b c d/\y a b c d)(k:∀a b c d,p a b c d->q a b c d->r a b c d->s a b c d->t a b c d->u a b c d->v a b c d->w a b c d->x a b c d->y a b c d->G):G:=h.elim λa h0=>h0.elim λb h1=>h1.elim λc h2=>h2.elim λd h3=>k a b c d h3.1 h3.2.1 h3.2.2.1 h3.2.2.2.1 h3.2.2.2.2.1 h3.2.2.2.2.2.1 h3.2.2.2.2.2.2.1 h3.2.2.2.2.2.2.2.1 h3.2.2.2.2.2.2.2.2.1 h3.2.2.2.2.2.2.2.2.2
theorem G6 {p q r s t u v w x:α->β->γ->δ->Prop}{y z p0:α->β->γ->δ->ε->Prop}(h:∃a b c d,p a b c d/\q a b c d/\r a b c d/\s a b c d/\t a b c d/\u a b c d/\v a b c d/\w a b c d/\x a b c d/\∃e,y a b c d e/\z a b c d e/\p0 a b c d e)(k:∀a b c d,p a b c d->q a b c d->r a b c d->s a b c d->t a b c d->u a b c d->v a b c d->w a b c d->x a b c d->∀e,y a b c d e->z a b c d e->p0 a b c d e->G):G:=h.elim λa h0=>h0.elim λb h1=>h1.elim λc h2=>h2.elim λd h3=>h3.2.2.2.2.2.2.2.2.2.elim λe FG=>k a b c d h3.1 h3.2.1 h3.2.2.1 h3.2.2.2.1 h3.2.2.2.2.1 h3.2.2.2.2.2.1 h3.2.2.2.2.2.2.1 h3.2.2.2.2.2.2.2.1 h3.2.2.2.2.2.2.2.2.1 e FG.1 FG.2.1 FG.2.2
theorem U8 {p:α->β->γ->δ->ε->Prop}(h:∃a b c d e,p a b c d e)(k:∀a b c d e,p a b c d e->G):G:=h.elim λa h0=>h0.elim λb h1=>h1.elim λc h2=>h2.elim λd h3=>h3.elim λe h4=>k a b c d e h4
theorem O0 {p q r s t u v w:α->β->γ->δ->ε->Prop}(h:∃a b c d e,p a b c d e/\q a b c d e/\r a b c d e/\s a b c d e/\t a b c d e/\u a b c d e/\v a b c d e/\w a b c d e)(k:∀a b c d e,p a b c d e->q a b c d e->r a b c d e->s a b c d e->t a b c d e->u a b c d e->v a b c d e->w a b c d e->G):G:=h.elim λa h0=>h0.elim λb h1=>h1.elim λc h2=>h2.elim λd h3=>h3.elim λe h4=>k a b c d e h4.1 h4.2.1 h4.2.2.1 h4.2.2.2.1 h4.2.2.2.2.1 h4.2.2.2.2.2.1 h4.2.2.2.2.2.2.1 h4.2.2.2.2.2.2.2
theorem RQ {p q:α->β->γ->δ->ε->ζ->Prop}(h:∃a b c d e f,p a b c d e f/\q a b c d e f)(k:∀a b c d e f,p a b c d e f->q a b c d e f->G):G:=h.elim λa h0=>h0.elim λb h1=>h1.elim λc h2=>h2.elim λd h3=>h3.elim λe h4=>h4.elim λf h5=>k a b c d e f h5.1 h5.2
theorem Ia {p:α->β->γ->δ->ε->ζ->η->θ->Prop}(h:∃a b c d e f g i,p a b c d e f g i)(k:∀a b c d e f g i,p a b c d e f g i->G):G:=h.elim λa h0=>h0.elim λb h1=>h1.elim λc h2=>h2.elim λd h3=>h3.elim λe h4=>h4.elim λf h5=>h5.elim λg h6=>h6.elim λi h7=>k a b c d e f g i h7
theorem Qo {p:α->β->γ->δ->ε->ζ->η->θ->ι->Prop}(h:∃a b c d e f g i j,p a b c d e f g i j)(k:∀a b c d e f g i j,p a b c d e f g i j->G):G:=h.elim λa h0=>h0.elim λb h1=>h1.elim λc h2=>h2.elim λd h3=>h3.elim λe h4=>h4.elim λf h5=>h5.elim λg h6=>h6.elim λi h7=>h7.elim λj h8=>k a b c d e f g i j h8
theorem Hq {p q:α->β->γ->δ->ε->ζ->η->θ->ι->κ->Prop}(h:∃a b c d e f g i j l,p a b c d e f g i j l/\q a b c d e f g i j l)(k:∀a b c d e f g i j l,p a b c d e f g i j l->q a b c d e f g i j l->G):G:=h.elim λa h0=>h0.elim λb h1=>h1.elim λc h2=>h2.elim λd h3=>h3.elim λe h4=>h4.elim λf h5=>h5.elim λg h6=>h6.elim λi h7=>h7.elim λj h8=>h8.elim λl h9=>k a b c d e f g i j l h9.1 h9.2
@[elab_as_elim] theorem Mf {α β:Type _}{a b:α}{c d:β}{motive:α->β->Prop}(h:(a,c)=(b,d))(k:motive b d):motive a c:=by cases h;exact k
@[elab_as_elim] theorem Mx {α β:Type _}{a b:α}{c d:β}{motive:α->β->Prop}(h:(a,c)=(b,d))(k:motive a c):motive b d:=by cases h;exact k
@[elab_as_elim] theorem Lg {α β:Type _}{a b:α}{c d:β}{motive:α->β->Prop}(h:some (a,c)=some (b,d))(k:motive b d):motive a c:=by cases h;exact k
@[elab_as_elim] theorem i7 {α β:Type _}{a b:α}{c d:β}{motive:α->β->Prop}(h:some (a,c)=some (b,d))(k:motive a d):motive b c:=by cases h;exact k
@[elab_as_elim] theorem dX {α β:Type _}{a b:α}{c d:β}{motive:α->β->Prop}(h:some (a,c)=some (b,d))(k:motive a c):motive b d:=by cases h;exact k
@[elab_as_elim] theorem dP {α:Type _}{a b:α}{motive:α->Prop}(h:some a=some b)(k:motive b):motive a:=by cases h;exact k
@[elab_as_elim] theorem aT {α:Type _}{a b:α}{motive:α->Prop}(h:some a=some b)(k:motive a):motive b:=by cases h;exact k
theorem cA {p q:Prop}(h0:p)(h1:q):p/\q:=⟨h0,h1⟩
theorem dg {p q r:Prop}(h0:p)(h1:q)(h2:r):p/\q/\r:=⟨h0,h1,h2⟩
theorem pq {p q r s:Prop}(h0:p)(h1:q)(h2:r)(h3:s):p/\q/\r/\s:=⟨h0,h1,h2,h3⟩
theorem Vr {p q r s t:Prop}(h0:p)(h1:q)(h2:r)(h3:s)(h4:t):p/\q/\r/\s/\t:=⟨h0,h1,h2,h3,h4⟩
theorem K5 {p q r s t u:Prop}(h0:p)(h1:q)(h2:r)(h3:s)(h4:t)(h5:u):p/\q/\r/\s/\t/\u:=⟨h0,h1,h2,h3,h4,h5⟩
theorem SA {p q:Prop}{r s t u:α->β->Prop}(h0:p)(h1:q)(a:α)(b:β)(h2:r a b)(h3:s a b)(h4:t a b)(h5:u a b):p/\q/\∃a b,r a b/\s a b/\t a b/\u a b:=⟨h0,h1,a,b,h2,h3,h4,h5⟩
theorem qY {p:Prop}{q:α->Prop}(h0:p)(a:α)(h1:q a):p/\∃a,q a:=⟨h0,a,h1⟩
theorem Wj {p:Prop}{q r s:α->Prop}(h0:p)(a:α)(h1:q a)(h2:r a)(h3:s a):p/\∃a,q a/\r a/\s a:=⟨h0,a,h1,h2,h3⟩
theorem Eh {p:Prop}{q:α->β->Prop}(h0:p)(a:α)(b:β)(h1:q a b):p/\∃a b,q a b:=⟨h0,a,b,h1⟩
theorem Ki {p:Prop}{q r s t:α->β->Prop}(h0:p)(a:α)(b:β)(h1:q a b)(h2:r a b)(h3:s a b)(h4:t a b):p/\∃a b,q a b/\r a b/\s a b/\t a b:=⟨h0,a,b,h1,h2,h3,h4⟩
theorem Q3 {p:Prop}{q r s t:α->β->γ->δ->Prop}(h0:p)(a:α)(b:β)(c:γ)(d:δ)(h1:q a b c d)(h2:r a b c d)(h3:s a b c d)(h4:t a b c d):p/\∃a b c d,q a b c d/\r a b c d/\s a b c d/\t a b c d:=⟨h0,a,b,c,d,h1,h2,h3,h4⟩
theorem aP {p q:α->Prop}(a:α)(h0:p a)(h1:q a):∃a,p a/\q a:=⟨a,h0,h1⟩
theorem cO {p q r:α->Prop}(a:α)(h0:p a)(h1:q a)(h2:r a):∃a,p a/\q a/\r a:=⟨a,h0,h1,h2⟩
theorem su {p q r s:α->Prop}(a:α)(h0:p a)(h1:q a)(h2:r a)(h3:s a):∃a,p a/\q a/\r a/\s a:=⟨a,h0,h1,h2,h3⟩
theorem DT {p q:α->Prop}{r:α->β->Prop}(a:α)(h0:p a)(h1:q a)(b:β)(h2:r a b):∃a,p a/\q a/\∃b,r a b:=⟨a,h0,h1,b,h2⟩
theorem d7 {p:α->β->Prop}(a:α)(b:β)(h0:p a b):∃a b,p a b:=⟨a,b,h0⟩
theorem cF {p q:α->β->Prop}(a:α)(b:β)(h0:p a b)(h1:q a b):∃a b,p a b/\q a b:=⟨a,b,h0,h1⟩
theorem ey {p q r:α->β->Prop}(a:α)(b:β)(h0:p a b)(h1:q a b)(h2:r a b):∃a b,p a b/\q a b/\r a b:=⟨a,b,h0,h1,h2⟩
theorem dp {p q r s:α->β->Prop}(a:α)(b:β)(h0:p a b)(h1:q a b)(h2:r a b)(h3:s a b):∃a b,p a b/\q a b/\r a b/\s a b:=⟨a,b,h0,h1,h2,h3⟩
theorem qu {p q r s t:α->β->Prop}(a:α)(b:β)(h0:p a b)(h1:q a b)(h2:r a b)(h3:s a b)(h4:t a b):∃a b,p a b/\q a b/\r a b/\s a b/\t a b:=⟨a,b,h0,h1,h2,h3,h4⟩
theorem Cw {p q r s t u:α->β->Prop}(a:α)(b:β)(h0:p a b)(h1:q a b)(h2:r a b)(h3:s a b)(h4:t a b)(h5:u a b):∃a b,p a b/\q a b/\r a b/\s a b/\t a b/\u a b:=⟨a,b,h0,h1,h2,h3,h4,h5⟩
theorem zQ {p:α->β->γ->Prop}(a:α)(b:β)(c:γ)(h0:p a b c):∃a b c,p a b c:=⟨a,b,c,h0⟩
theorem eJ {p q:α->β->γ->Prop}(a:α)(b:β)(c:γ)(h0:p a b c)(h1:q a b c):∃a b c,p a b c/\q a b c:=⟨a,b,c,h0,h1⟩
theorem ik {p q r:α->β->γ->Prop}(a:α)(b:β)(c:γ)(h0:p a b c)(h1:q a b c)(h2:r a b c):∃a b c,p a b c/\q a b c/\r a b c:=⟨a,b,c,h0,h1,h2⟩
theorem oW {p q r s:α->β->γ->Prop}(a:α)(b:β)(c:γ)(h0:p a b c)(h1:q a b c)(h2:r a b c)(h3:s a b c):∃a b c,p a b c/\q a b c/\r a b c/\s a b c:=⟨a,b,c,h0,h1,h2,h3⟩
theorem vC {p q r s t u v w:α->β->γ->Prop}(a:α)(b:β)(c:γ)(h0:p a b c)(h1:q a b c)(h2:r a b c)(h3:s a b c)(h4:t a b c)(h5:u a b c)(h6:v a b c)(h7:w a b c):∃a b c,p a b c/\q a b c/\r a b c/\s a b c/\t a b c/\u a b c/\v a b c/\w a b c:=⟨a,b,c,h0,h1,h2,h3,h4,h5,h6,h7⟩
theorem La {p:α->β->γ->δ->Prop}(a:α)(b:β)(c:γ)(d:δ)(h0:p a b c d):∃a b c d,p a b c d:=⟨a,b,c,d,h0⟩
theorem UA {p q:α->β->γ->δ->Prop}(a:α)(b:β)(c:γ)(d:δ)(h0:p a b c d)(h1:q a b c d):∃a b c d,p a b c d/\q a b c d:=⟨a,b,c,d,h0,h1⟩
theorem J4 {p q r:α->β->γ->δ->Prop}(a:α)(b:β)(c:γ)(d:δ)(h0:p a b c d)(h1:q a b c d)(h2:r a b c d):∃a b c d,p a b c d/\q a b c d/\r a b c d:=⟨a,b,c,d,h0,h1,h2⟩
theorem oP {p q r s t:α->β->γ->δ->Prop}(a:α)(b:β)(c:γ)(d:δ)(h0:p a b c d)(h1:q a b c d)(h2:r a b c d)(h3:s a b c d)(h4:t a b c d):∃a b c d,p a b c d/\q a b c d/\r a b c d/\s a b c d/\t a b c d:=⟨a,b,c,d,h0,h1,h2,h3,h4⟩
theorem BB {p q r s t u v:α->β->γ->δ->Prop}(a:α)(b:β)(c:γ)(d:δ)(h0:p a b c d)(h1:q a b c d)(h2:r a b c d)(h3:s a b c d)(h4:t a b c d)(h5:u a b c d)(h6:v a b c d):∃a b c d,p a b c d/\q a b c d/\r a b c d/\s a b c d/\t a b c d/\u a b c d/\v a b c d:=⟨a,b,c,d,h0,h1,h2,h3,h4,h5,h6⟩
theorem C3 {p:α->β->γ->δ->ε->ζ->Prop}(a:α)(b:β)(c:γ)(d:δ)(e:ε)(f:ζ)(h0:p a b c d e f):∃a b c d e f,p a b c d e f:=⟨a,b,c,d,e,f,h0⟩
theorem kA {p q:Prop}(k:p->q->G)(h:p/\q):G:=oA h k
theorem tx {p q r:Prop}(k:p->q->r->G)(h:p/\q/\r):G:=fp h k
theorem Me {p q r s:Prop}(k:p->q->r->s->G)(h:p/\q/\r/\s):G:=nA h k
theorem Dl {p q:Prop}{r s t:α->Prop}(k:p->q->∀a,r a->s a->t a->G)(h:p/\q/\∃a,r a/\s a/\t a):G:=U5 h k
theorem AZ {p:Prop}{q:α->Prop}(k:p->∀a,q a->G)(h:p/\∃a,q a):G:=X9 h k
theorem kE {p:α->Prop}(k:∀a,p a->G)(h:∃a,p a):G:=oE h k
theorem Gl {p q:α->Prop}(k:∀a,p a->q a->G)(h:∃a,p a/\q a):G:=aO h k
theorem Er {p q r:α->Prop}(k:∀a,p a->q a->r a->G)(h:∃a,p a/\q a/\r a):G:=cy h k
theorem rp {p:α->β->Prop}(k:∀a b,p a b->G)(h:∃a b,p a b):G:=fE h k
theorem cK {p q:α->β->Prop}(k:∀a b,p a b->q a b->G)(h:∃a b,p a b/\q a b):G:=dc h k
theorem VP {p q r:α->β->Prop}(k:∀a b,p a b->q a b->r a b->G)(h:∃a b,p a b/\q a b/\r a b):G:=cj h k
theorem JY {p q r s t:α->β->Prop}(k:∀a b,p a b->q a b->r a b->s a b->t a b->G)(h:∃a b,p a b/\q a b/\r a b/\s a b/\t a b):G:=nV h k
theorem qy {p q r:α->β->γ->Prop}(k:∀a b c,p a b c->q a b c->r a b c->G)(h:∃a b c,p a b c/\q a b c/\r a b c):G:=dG h k
theorem RL {p q r s t:α->β->γ->Prop}(k:∀a b c,p a b c->q a b c->r a b c->s a b c->t a b c->G)(h:∃a b c,p a b c/\q a b c/\r a b c/\s a b c/\t a b c):G:=wY h λa b c h=>zo h (k a b c)
theorem Qy {p q r s t:α->β->γ->δ->Prop}(k:∀a b c d,p a b c d->q a b c d->r a b c d->s a b c d->t a b c d->G)(h:∃a b c d,p a b c d/\q a b c d/\r a b c d/\s a b c d/\t a b c d):G:=jU h k
theorem yb {p q r s t u v w:α->β->γ->Prop}(k:∀a b c,p a b c->q a b c->r a b c->s a b c->t a b c->u a b c->v a b c->w a b c->G)(h:∃a b c,p a b c/\q a b c/\r a b c/\s a b c/\t a b c/\u a b c/\v a b c/\w a b c):G:=PD h k
theorem Ey {a d p:Nat}(h:p<=d+a):p-d<=a:=Nat.sub_le_iff_le_add'.mpr h
theorem EN {a d p:Nat}(h2:d<=p):a-(p-d)=d+a-p:=(Nat.sub_sub_right a h2).trans (by rw[vH])
theorem My {a d p:Nat}(h:a<=p)(h2:p<=d+a):a+(d-(d+a-p))=p:=by
 obtain⟨k,rfl⟩:=Nat.exists_eq_add_of_le h;rw[vH d a,Nat.add_sub_add_left,Nat.sub_sub_self (Nat.le_of_add_le_add_left (by rw[vH a d];exact h2))]
theorem Ld {v d p:Nat}(h:v<=p)(h2:d<=p)(h3:p-d<=v):v+(d-(v-(p-d)))=p:=by
 rw[EN h2];exact My h (by rw[vH];exact Nat.sub_le_iff_le_add.mp h3)
theorem zT {a b:Nat}(h:b<=a):b+(a-b)=a:=pW h
theorem Mm {N i j:Nat}(a:N<=i)(b:N<=j)(h:i-N=j-N):i=j:=by rw[<- Nat.sub_add_cancel a,h,Nat.sub_add_cancel b]
theorem qZ {N m i:Nat}(a:¬i<N)(b:i<N+m):i-N<m:=G8 (eN a) b
theorem ED {i n:Nat}(h:i+1<=n):yA i+(n:Int)=((n-(i+1):Nat):Int):=Int.subNatNat_of_le h
theorem KO {i n:Nat}(h:n<i+1):yA i+(n:Int)<0:=by
 rw[show yA i+(n:Int)=_ from Int.subNatNat_of_lt h];exact Bf _
theorem Us (i n:Nat):max 0 (min (yA i+(n:Int)) (n:Int))=((n-(i+1):Nat):Int):=by
 by_cases h:i+1<=n
 ·rw[ED h,BE (tN.mpr (yO _ _)),By (rD _)]
 ·obtain h:=vo h;obtain h2:=KO h;rw[BE (Int.le_of_lt (Int.lt_of_lt_of_le h2 (rD _))),Int.max_eq_left (Int.le_of_lt h2),vf (ky h)];rfl
theorem Vc (i n:Nat):(max 0 (yA i+(n:Int))).toNat=n-(i+1):=by
 by_cases h:i+1<=n
 ·rw[ED h,By (rD _)];rfl
 ·obtain h:=vo h;rw[Int.max_eq_left (Int.le_of_lt (KO h)),vf (ky h)];rfl
theorem UC (i n:Nat):max 0 (min (i:Int) (n:Int))=((min i n:Nat):Int):=by
 obtain e:0<=min (i:Int) (n:Int):=by
  rcases Nat.le_total i n with h|h
  ·rw[BE (tN.mpr h)];exact rD _
  ·rw[Int.min_eq_right (tN.mpr h)];exact rD _
 rw[By e];rcases Nat.le_total i n with h|h
 ·rw[BE (tN.mpr h),nP h]
 ·rw[Int.min_eq_right (tN.mpr h),Nat.min_eq_right h]
theorem VS (h:n+1<=k):k=k-1+1:=(Nat.succ_pred_eq_of_pos (fK (Ce n) h)).symm
end Zq
end
section
namespace eH
open PySem PySem.W
structure Tp where
 os:List cI
 n:Nat
 t:Nat
 gl:List (ak×Nat×az)
 tb:List az
 nm:az
 sub:List (ax×az)
 xc:List ax
noncomputable def oz (l:List az):cI:=⟨.type "tuple",none,.seq l.toArray 0,#[]⟩
noncomputable def wI (l:List az):cI:=⟨.none,none,.fields l.toArray,#[]⟩
noncomputable def FV (c:az)(l:List az):cI:=⟨c,none,.fields l.toArray,#[]⟩
noncomputable def iv (n:Nat)(t:Nat:=0):az:=.int (lq n) t
noncomputable def xg (s:String)(t:Nat):az:=.str (yx s) t
noncomputable def Ly (t:Nat):az:=xg "/claim/cut.py" t
noncomputable def nums:Nat->List ak->List az
 |_,[]=>[]
 |t,s::r=>.str s t::nums (t+1) r
noncomputable def zy (nm qual:ak)(t line Xm:Nat)(fl:Nat)(base:ax)(opt:Bool)(vs cs tm:az)(k:Nat):cI :=
 ⟨.type "code",none,.fields #[.str nm t,.str qual (t+1),Ly (t+2),iv line,iv Xm,iv 0,iv 0,iv fl,.ref base,.bool opt,iv 181,.ref (base+1),.none,vs,cs,tm,iv k,iv line,Ly (k+1)],#[]⟩
noncomputable def DO:List (ak×Nat×az)->ak->az
 |[],_=>.none
 |p::r,x=>match p.1.cps.toList==x.cps.toList with
  |true=>p.2.2
  |false=>DO r x
mutual
noncomputable def Mk (g:List (ak×Nat×az)):Expr->Nat->Nat->List cI->az×Nat×Nat×List cI
 |.Constant (.int i) _ _,n,t,os=>(.int i t,n,t+1,os)
 |.Constant (.str s) _ _,n,t,os=>(.str s t,n,t+1,os)
 |.Name x _,n,t,os=>(DO g x,n,t,os)
 |.Tuple l _ _,n,t,os=>match D9 g l n t os with
  |(vs,n,t,os)=>(.ref n,n+1,t,oz vs::os)
 |_,n,t,os=>(.none,n,t,os)
noncomputable def D9 (g:List (ak×Nat×az)):List Expr->Nat->Nat->List cI->List az×Nat×Nat×List cI
 |[],n,t,os=>([],n,t,os)
 |e::r,n,t,os=>match Mk g e n t os with
  |(v,n,t,os)=>match D9 g r n t os with
   |(vs,n,t,os)=>(v::vs,n,t,os)
end
noncomputable def MH (nm:ak)(p:rY)(b:List bO)(sc:fh)(ps:aZ)(qual:ak)(pm:az)(x:Nat×Nat×List cI):az×List az×Nat×Nat×List cI :=
 match x with
 |(n,t,os) =>
  match (match p.defaults with
   |[]=>(fQ,n,t,os)
   |d=>match D9 [] d n t os with
    |(vs,n,t,os)=>(dn n,n+1,t,oz vs::os)) with
  |(df,n,t,os) =>
   let fd:FuncData:={name:=nm,qualname:=qual,params:=p,body:=.stmts b,scope:=sc,globals:=builtinsNs,closure:=[],defaults:=.none,kwdefaults:=.none};let fn (a:ax):cI:=⟨.type "function",none,.func {fd with globals:=mainGlobals,defaults:=df,pyModule:=pm,code:=.ref a,builtins:=builtinsNs},#[]⟩
   match localNames p sc (.stmts b) with
   |none=>(.ref (n+4),[iv ps.line,iv ps.col,.ref (n+3)],n+5,t+5,
    fn (n+3)::zy nm qual t ps.line p.args.length 3 n true .none .none (.ref (n+2)) (t+3)::⟨.none,none,.func fd,#[]⟩::wI []::oz []::os)
   |some (vs,cs) =>
    let k:=t+3+vs.length+cs.length
    (.ref (n+6),[iv ps.line,iv ps.col,.ref (n+5)],n+7,k+2,
     fn (n+5)::zy nm qual t ps.line p.args.length 3 n true (.ref (n+2)) (.ref (n+3)) (.ref (n+4)) k ::
     ⟨.none,none,.func fd,#[]⟩::oz (nums (t+3+vs.length) cs)::oz (nums (t+3) vs)::wI []::oz []::os)
structure Mt where
 ent:List (ak×Nat×az)
 tb:List az
 n:Nat
 t:Nat
 os:List cI
noncomputable def meths (cn:ak)(pm:az):List bO->Mt->Mt
 |[],m=>m
 |.FunctionDef nm p b _ _ _ sc _ _ ps::r,m =>
  match MH nm p b sc ps (cn++yx "."++nm) pm (m.n,m.t,m.os) with
  |(v,e,n,t,os)=>meths cn pm r ⟨m.ent++[(nm,t,v)],m.tb++e,n,t+1,os⟩
 |_::r,m=>meths cn pm r m
noncomputable def ents (P:bA)(l:List (ak×Nat×az)):List oR:=l.map λp=>⟨gm P p.1,.str p.1 p.2.1,p.2.2⟩
noncomputable def LZ (c:az)(P:bA)(l:List (ak×Nat×az))(k:Nat):cI:=⟨c,none,.dict (ents P l).toArray k,#[]⟩
noncomputable def kY (s:String):ak:=yx s
noncomputable def YJ (P:bA)(s:bO)(x:Tp):Tp:=match s with
 |.Assign [.Name y _] e _=>match Mk x.gl e x.n x.t x.os with
  |(v,n,t,os)=>(match y.cps.toList==(kY "__name__").cps.toList with
   |true=>{x with os,n,t:=t+1,nm:=v}
   |false=>{x with os,n,t:=t+1,gl:=(y,t,v)::x.gl})
 |.FunctionDef nm p b _ _ _ sc _ _ ps=>(match MH nm p b sc ps nm x.nm (x.n,x.t,x.os) with
  |(v,e,n,t,os)=>{x with os,n,t:=t+1,gl:=(nm,t,v)::x.gl,tb:=x.tb++e})
 |.ClassDef nm bs _ b _ _ _ _ _ st ps =>
  let base:az:=match bs with
   |[]=>.type "object"
   |.Name y _::_=>(match DO x.gl y with|.none=>.type "Exception" |v=>v)
   |_=>.none
  let a:=x.n;let t:=x.t;let mt:=meths nm x.nm b ⟨[],[],a+7,t+12,[]⟩;let Gj:=mt.n;let u:=mt.t+st.length;let own:=[(kY "__module__",t+7,x.nm),(kY "__firstlineno__",t+11,iv ps.line (t+10))]++mt.ent++[(kY "__static_attributes__",u,dn Gj)];let NS:=[(kY "__module__",t+7,x.nm),(kY "__qualname__",t+9,Value.str nm (t+8)),(kY "__firstlineno__",t+11,iv ps.line (t+10))]++mt.ent++[(kY "__static_attributes__",u,dn Gj)];let C:=Gj+2;let ds:List (Nat×Nat×List cI×List (ak×Nat×az)):=[];let _:=ds;let (isObj,isExc):=match base with|.type "object"=>(true,false)|.type _=>(false,true)|_=>(false,false)
  let g0:=if isObj then [⟨.type "getset_descriptor",none,.fields #[xg "__dict__" (u+1),.ref C,.builtin "function.__dict__",.builtin "function.__dict__#set"],#[]⟩] else ([]:List cI)
  let e0:=if isObj then [(kY "__dict__",u+2,dn (C+1))] else []
  let u1:=if isObj then u+2 else u
  let c1:=if isObj then C+2 else C+1
  let g1:=if isObj||isExc then [⟨.type "getset_descriptor",none,.fields #[xg "__weakref__" (u1+1),.ref C,.builtin "ExceptionGroup.__weakref__",.none],#[]⟩] else ([]:List cI)
  let e1:=if isObj||isExc then [(kY "__weakref__",u1+2,dn c1)] else []
  let u2:=if isObj||isExc then u1+2 else u1
  let c2:=if isObj||isExc then c1+1 else c1
  let u3:=if isExc then u2+3 else u2+1
  let mro:List az:=.ref C::(match base with
   |.type "object"=>[.type "object"]
   |.type _=>[.type "Exception",.type "BaseException",.type "object"]
   |.ref b=>.ref b::[.type "Exception",.type "BaseException",.type "object"]
   |_=>[])
  let k:=1+e0.length+e1.length+1
  {x with
   n:=c2+2,t:=u3+3,
   sub:=(match base with|.ref b=>x.sub++[(b,.ref C)]|_=>x.sub),
   gl:=(nm,u3+2,.ref C)::x.gl,
   tb:=x.tb++[iv ps.line,iv ps.col,.ref (a+5)],
   xc:=if isExc then x.xc++[C] else x.xc,
   os:=[FV (.type "builtin_function_or_method") [.builtin "object.__init_subclass__",.ref C],FV (.type "super") [.ref C,.ref C,.ref C]]++g1++g0 ++
    [⟨.type "type",none,.cls {name:=nm,bases:=[base],mro,ns:=C-1,qualname:=nm},#[if isObj then none else some (.ref a),none,some (.str nm t),some (.str nm (t+8)),some (.builtin (if isObj then "object.__new__" else "Exception.__new__")),some (.bool true)]⟩,
     LZ (.type "dict") P (own++e0++e1++[(kY "__doc__",u2+1,.none)]) k,oz (nums mt.t st)]++mt.os ++
    [⟨.type "frame",none,.plain,#[some (.ref (a+5)),some (.ref mainGlobals),some (.ref (a+2)),none,some x.nm,none,some (.ref builtinsNs)]⟩,
     zy nm nm (t+2) ps.line 0 0 (a+3) false .none .none .none (t+5),wI mt.tb,oz [],LZ (.type "dict") P NS NS.length,
     FV (.type "builtin_function_or_method") [.builtin "type.__prepare__",.type "type"],oz (if isObj then [] else [base])]++x.os}
 |_=>x
noncomputable def XU:Tp:=⟨[],15,187,[],[],xg "__main__" 164,[],[]⟩
noncomputable def UJ (o:cI)(nm:az):List oR:=match o.data with
 |.dict es _=>(match es.toList with
  |e::r=>{e with val:=nm}::r
  |[]=>[])
 |_=>[]
noncomputable def Wz (P:bA)(x:Tp)(o:cI):cI:=match x.xc with
 |[]=>o
 |c::_=>⟨.none,none,.dict (ents P [(kY "type.__subclasses__.Exception.0",334,.int (lq c) 0),(kY "type.__subclasses__.Exception.n",335,.int 1 0)]).toArray 2,#[]⟩
noncomputable def Wo (P:bA)(o:cI)(x:Tp):cI:=⟨.type "dict",none,.dict (UJ o x.nm++ents P x.gl.reverse).toArray (9+x.gl.length),#[]⟩
noncomputable def VG (P:bA)(B:Nat->cI):List cI :=
 [B 0,B 1,B 2,B 3,B 4,B 5,B 6,B 7,B 8,B 9,B 10,
  oz [],wI [],zy (kY "<module>") (kY "<module>") 182 1 0 0 11 false .none .none .none 185,
  ⟨.type "frame",none,.plain,#[some (.ref 13),some (.ref mainGlobals),some (.ref mainGlobals),none,some (xg "__main__" 164),none,some (.ref builtinsNs)]⟩]
noncomputable def U2 (C:az):cI->cI
 |⟨c,d,.cls k,s⟩=>⟨c,d,.cls {k with subclasses:=k.subclasses++[C]},s⟩
 |o=>o
noncomputable def uk:BT->Nat->(cI->cI)->BT
 |.nil,_,_=>.nil
 |.node v l r,i,f=>match bx i 0 with
  |true=>.node (f v) l r
  |false=>match bx (i%2) 1 with
   |true=>.node v (uk l (i/2) f) r
   |false=>.node v l (uk r (i/2-1) f)
noncomputable def EV:BT->Nat->cI->BT
 |.nil,_,o=>.node o .nil .nil
 |.node v l r,i,o=>match bx i 0 with
  |true=>.node o l r
  |false=>match bx (i%2) 1 with
   |true=>.node v (EV l (i/2) o) r
   |false=>.node v l (EV r (i/2-1) o)
noncomputable def Dx:Nat->List cI->BT->BT
 |_,[],T=>T
 |n,o::r,T=>Dx (n+1) r (EV T n o)
noncomputable def K2:List (ax×az)->BT->BT
 |[],T=>T
 |p::r,T=>K2 r (uk T p.1 (U2 p.2))
noncomputable def nextT (P:bA)(o3:cI)(x x':Tp)(T:BT):BT :=
 uk (uk (K2 (x'.sub.drop x.sub.length) (Dx x.n (x'.os.take (x'.n-x.n)).reverse T)) 3 λZ=>Wo P o3 x') 12 λZ=>wI x'.tb
noncomputable def gO:List bO:=OF.main.body
noncomputable def gQ (P:bA):List bO->Tp->Tp
 |[],x=>x
 |s::r,x=>gQ P r (YJ P s x)
end eH
namespace eH
open PySem PySem.W PySem.Calls PyProof.Rows
noncomputable def gV (P:bA):Nat->cI
 | 0=>boot_o_0 P | 1=>boot_o_1 P | 2=>boot_o_2 P | 3=>boot_o_3 P | 4=>boot_o_4 P | 5=>boot_o_5 P | 6=>boot_o_6 P | 7=>boot_o_7 P | 8=>boot_o_8 P | 9=>boot_o_9 P|_=>boot_o_10 P
noncomputable def pE:cB:=A5.row.toRowW.prog
abbrev ui:List bO:=behindTheImports pE
noncomputable def px:a9:={scope:=pE.main.scope,locals:=mainNs,globals:=mainNs,cells:=[],code:=.ref 13,frame:=some 14}
abbrev jG:Code:=.body ui px
abbrev lA:Option az:=some (.ref 6)
noncomputable def shared (T:BT)(n t:Nat)(os:cZ):SharedT:=⟨T,n,{},#[],{},t,os⟩
noncomputable def c0 (_:bA):Tp:=XU
noncomputable def t0 (P:bA):BT:=Dx 0 (VG P (gV P)) .nil
abbrev gR (w:bw)(os:cZ)(k:Nat)(l:List bO)(x:BT)(n t:Nat)(p:aZ)(x':BT)(n' t':Nat)(p':aZ):Prop :=
 segRun treeTable pE w 11 lA 1 k (shared x n t os).abs (piecesOf l px jG p [topFrame ⟨0,0,0,0⟩])=some (.next,(shared x' n' t' os).abs,jG,p')
theorem ie {w:bw}{os:cZ}{k:Nat}{l:List bO}{x:BT}{n t:Nat}{p:aZ}{x':BT}{n' t':Nat}{p':aZ}
 (h:(λos=>PySem.W.Fast.tw10110043849684766642 PySem.W.Fast.tw14364793385576792824 pE w 11 lA 1 k (shared x n t os) (piecesOf l px jG p [topFrame ⟨0,0,0,0⟩]))=λos=>some (.next,shared x' n' t' os,jG,p')) :
 gR w os k l x n t p x' n' t' p':=segRun_of (by rw[PySem.W.Fast.te10110043849684766642,A4];exact congrFun h os)
theorem Vz {w:bw}{n t:Nat}{p:aZ}{x:BT}{os:cZ}:topRun treeTable pE w 11 lA 2 (shared x n t os).abs (restOf [] px jG p [topFrame ⟨0,0,0,0⟩])=some (shared x n t os).abs:=by
 rw[A4]
 kernel_rfl
end eH
namespace eH
open PySem PySem.W PySem.Calls PyProof.Rows
noncomputable def l1:List bO:=(gO.drop 0).take 15
noncomputable def c1 (P:bA):Tp:=gQ P l1 (c0 P)
noncomputable def t1 (P:bA):BT:=nextT P (gV P 3) (c0 P) (c1 P) (t0 P)
theorem r1 (w:bw)(os:cZ):gR w os 396 l1 (t0 w.params) 15 187 ⟨0,0,0,0⟩ (t1 w.params) 99 300 ⟨41,0,42,69⟩:=ie (by kernel_rfl)
noncomputable def l2:List bO:=(gO.drop 15).take 3
noncomputable def c2 (P:bA):Tp:=gQ P l2 (c1 P)
noncomputable def t2 (P:bA):BT:=uk (nextT P (gV P 3) (c1 P) (c2 P) (t1 P)) 2 (Wz P (c2 P))
theorem r2 (w:bw)(os:cZ):gR w os 267 l2 (t1 w.params) 99 300 ⟨41,0,42,69⟩ (t2 w.params) 126 338 ⟨46,0,50,30⟩:=ie (by kernel_rfl)
noncomputable def l3:List bO:=(gO.drop 18).take 1
noncomputable def c3 (P:bA):Tp:=gQ P l3 (c2 P)
noncomputable def t3 (P:bA):BT:=nextT P (gV P 3) (c2 P) (c3 P) (t2 P)
theorem r3 (w:bw)(os:cZ):gR w os 249 l3 (t2 w.params) 126 338 ⟨46,0,50,30⟩ (t3 w.params) 146 365 ⟨51,0,55,26⟩:=ie (by kernel_rfl)
noncomputable def l4:List bO:=(gO.drop 19).take 1
noncomputable def c4 (P:bA):Tp:=gQ P l4 (c3 P)
noncomputable def t4 (P:bA):BT:=nextT P (gV P 3) (c3 P) (c4 P) (t3 P)
theorem r4 (w:bw)(os:cZ):gR w os 214 l4 (t3 w.params) 146 365 ⟨51,0,55,26⟩ (t4 w.params) 158 381 ⟨56,0,57,8⟩:=ie (by kernel_rfl)
noncomputable def l5:List bO:=(gO.drop 20).take 2
noncomputable def c5 (P:bA):Tp:=gQ P l5 (c4 P)
noncomputable def t5 (P:bA):BT:=nextT P (gV P 3) (c4 P) (c5 P) (t4 P)
theorem r5 (w:bw)(os:cZ):gR w os 223 l5 (t4 w.params) 158 381 ⟨56,0,57,8⟩ (t5 w.params) 170 399 ⟨60,0,60,8⟩:=ie (by kernel_rfl)
noncomputable def l6:List bO:=(gO.drop 22).take 1
noncomputable def c6 (P:bA):Tp:=gQ P l6 (c5 P)
noncomputable def t6 (P:bA):BT:=nextT P (gV P 3) (c5 P) (c6 P) (t5 P)
theorem r6 (w:bw)(os:cZ):gR w os 685 l6 (t5 w.params) 170 399 ⟨60,0,60,8⟩ (t6 w.params) 292 551 ⟨61,0,142,16⟩:=ie (by kernel_rfl)
noncomputable def l7:List bO:=(gO.drop 23).take 11
noncomputable def c7 (P:bA):Tp:=gQ P l7 (c6 P)
noncomputable def t7 (P:bA):BT:=nextT P (gV P 3) (c6 P) (c7 P) (t6 P)
theorem r7 (w:bw)(os:cZ):gR w os 206 l7 (t6 w.params) 292 551 ⟨61,0,142,16⟩ (t7 w.params) 326 605 ⟨191,0,191,12⟩:=ie (by kernel_rfl)
noncomputable def l8:List bO:=(gO.drop 34).take 1
noncomputable def c8 (P:bA):Tp:=gQ P l8 (c7 P)
noncomputable def t8 (P:bA):BT:=nextT P (gV P 3) (c7 P) (c8 P) (t7 P)
theorem r8 (w:bw)(os:cZ):gR w os 353 l8 (t7 w.params) 326 605 ⟨191,0,191,12⟩ (t8 w.params) 375 668 ⟨192,0,216,27⟩:=ie (by kernel_rfl)
noncomputable def l9:List bO:=(gO.drop 35).take 1
noncomputable def c9 (P:bA):Tp:=gQ P l9 (c8 P)
noncomputable def t9 (P:bA):BT:=nextT P (gV P 3) (c8 P) (c9 P) (t8 P)
theorem r9 (w:bw)(os:cZ):gR w os 323 l9 (t8 w.params) 375 668 ⟨192,0,216,27⟩ (t9 w.params) 417 725 ⟨217,0,239,19⟩:=ie (by kernel_rfl)
noncomputable def FY:List bO:=(gO.drop 36).take 5
noncomputable def GI (P:bA):Tp:=gQ P FY (c9 P)
noncomputable def Gw (P:bA):BT:=nextT P (gV P 3) (c9 P) (GI P) (t9 P)
theorem AD (w:bw)(os:cZ):gR w os 416 FY (t9 w.params) 417 725 ⟨217,0,239,19⟩ (Gw w.params) 481 810 ⟨276,0,279,15⟩:=ie (by kernel_rfl)
noncomputable def GW:List bO:=(gO.drop 41).take 13
noncomputable def FH (P:bA):Tp:=gQ P GW (GI P)
noncomputable def GK (P:bA):BT:=nextT P (gV P 3) (GI P) (FH P) (Gw P)
theorem Y7 (w:bw)(os:cZ):gR w os 289 GW (Gw w.params) 481 810 ⟨276,0,279,15⟩ (GK w.params) 534 888 ⟨345,0,348,41⟩:=ie (by kernel_rfl)
noncomputable def GQ:List bO:=(gO.drop 54).take 1
noncomputable def Fg (P:bA):Tp:=gQ P GQ (FH P)
noncomputable def GJ (P:bA):BT:=nextT P (gV P 3) (FH P) (Fg P) (GK P)
theorem ZN (w:bw)(os:cZ):gR w os 420 GQ (GK w.params) 534 888 ⟨345,0,348,41⟩ (GJ w.params) 597 970 ⟨349,0,394,57⟩:=ie (by kernel_rfl)
noncomputable def GU:List bO:=(gO.drop 55).take 15
noncomputable def Fe (P:bA):Tp:=gQ P GU (Fg P)
noncomputable def GH (P:bA):BT:=nextT P (gV P 3) (Fg P) (Fe P) (GJ P)
theorem Gr (w:bw)(os:cZ):gR w os 408 GU (GJ w.params) 597 970 ⟨349,0,394,57⟩ (GH w.params) 681 1092 ⟨484,0,505,57⟩:=ie (by kernel_rfl)
noncomputable def AI:List bO:=(gO.drop 70).take 14
noncomputable def Fo (P:bA):Tp:=gQ P AI (Fe P)
noncomputable def GP (P:bA):BT:=nextT P (gV P 3) (Fe P) (Fo P) (GH P)
theorem Fd (w:bw)(os:cZ):gR w os 296 AI (GH w.params) 681 1092 ⟨484,0,505,57⟩ (GP w.params) 735 1171 ⟨580,0,581,75⟩:=ie (by kernel_rfl)
noncomputable def Gx:List bO:=(gO.drop 84).take 1
noncomputable def Gf (P:bA):Tp:=gQ P Gx (Fo P)
noncomputable def F3 (P:bA):BT:=nextT P (gV P 3) (Fo P) (Gf P) (GP P)
theorem Yu (w:bw)(os:cZ):gR w os 436 Gx (GP w.params) 735 1171 ⟨580,0,581,75⟩ (F3 w.params) 798 1269 ⟨582,0,655,20⟩:=ie (by kernel_rfl)
noncomputable def Fb:List bO:=(gO.drop 85).take 1
noncomputable def E8 (P:bA):Tp:=gQ P Fb (Gf P)
noncomputable def Gi (P:bA):BT:=nextT P (gV P 3) (Gf P) (E8 P) (F3 P)
theorem YS (w:bw)(os:cZ):gR w os 464 Fb (F3 w.params) 798 1269 ⟨582,0,655,20⟩ (Gi w.params) 869 1370 ⟨656,0,734,22⟩:=ie (by kernel_rfl)
noncomputable def FZ:List bO:=(gO.drop 86).take 4
noncomputable def Fn (P:bA):Tp:=gQ P FZ (E8 P)
noncomputable def Gu (P:bA):BT:=nextT P (gV P 3) (E8 P) (Fn P) (Gi P)
theorem YW (w:bw)(os:cZ):gR w os 255 FZ (Gi w.params) 869 1370 ⟨656,0,734,22⟩ (Gu w.params) 891 1409 ⟨738,0,742,34⟩:=ie (by kernel_rfl)
noncomputable def GF:List bO:=(gO.drop 90).take 3
noncomputable def Fp (P:bA):Tp:=gQ P GF (Fn P)
noncomputable def E5 (P:bA):BT:=nextT P (gV P 3) (Fn P) (Fp P) (Gu P)
theorem r18 (w:bw)(os:cZ):gR w os 352 GF (Gu w.params) 891 1409 ⟨738,0,742,34⟩ (E5 w.params) 940 1475 ⟨759,0,766,25⟩:=ie (by kernel_rfl)
noncomputable def EW:List bO:=(gO.drop 93).take 1
noncomputable def GS (P:bA):Tp:=gQ P EW (Fp P)
noncomputable def Gb (P:bA):BT:=nextT P (gV P 3) (Fp P) (GS P) (E5 P)
theorem ZE (w:bw)(os:cZ):gR w os 523 EW (E5 w.params) 940 1475 ⟨759,0,766,25⟩ (Gb w.params) 1026 1586 ⟨767,0,815,50⟩:=ie (by kernel_rfl)
noncomputable def GG:List bO:=(gO.drop 94).take 12
noncomputable def ZF (P:bA):Tp:=gQ P GG (GS P)
noncomputable def xi (P:bA):BT:=nextT P (gV P 3) (GS P) (ZF P) (Gb P)
theorem YB (w:bw)(os:cZ):gR w os 352 GG (Gb w.params) 1026 1586 ⟨767,0,815,50⟩ (xi w.params) 1099 1692 ⟨879,0,892,48⟩:=ie (by kernel_rfl)
abbrev tZ (P:bA):BT:=xi P
theorem ls_eq:ui=l1++(l2++(l3++(l4++(l5++(l6++(l7++(l8++(l9++(FY++(GW++(GQ++(GU++(AI++(Gx++(Fb++(FZ++(GF++(EW++(GG++[]))))))))))))))))))):=by kernel_rfl
theorem fin (w:bw)(os:cZ):topRun treeTable pE w 11 lA 2 (shared (xi w.params) 1099 1692 os).abs (restOf [] px jG ⟨879,0,892,48⟩ [topFrame ⟨0,0,0,0⟩])=some (shared (xi w.params) 1099 1692 os).abs:=Vz
theorem Tz (w:bw)(os:cZ):topRun treeTable pE w 11 lA (396+(267+(249+(214+(223+(685+(206+(353+(323+(416+(289+(420+(408+(296+(436+(464+(255+(352+(523+(352+2)))))))))))))))))))) (shared (t0 w.params) 15 187 os).abs (restOf ui px jG ⟨0,0,0,0⟩ [topFrame ⟨0,0,0,0⟩])=some (shared (xi w.params) 1099 1692 os).abs:=by
 rw[ls_eq];exact piece_app (r1 w os) (piece_app (r2 w os) (piece_app (r3 w os) (piece_app (r4 w os) (piece_app (r5 w os) (piece_app (r6 w os) (piece_app (r7 w os) (piece_app (r8 w os) (piece_app (r9 w os) (piece_app (AD w os) (piece_app (Y7 w os) (piece_app (ZN w os) (piece_app (Gr w os) (piece_app (Fd w os) (piece_app (Yu w os) (piece_app (YS w os) (piece_app (YW w os) (piece_app (r18 w os) (piece_app (ZE w os) (piece_app (YB w os) (fin w os))))))))))))))))))))
end eH
namespace eH
open PySem PySem.W PySem.Calls PyProof.Rows
noncomputable def pA (P:bA):bf:=absHeap (tZ P) 1099 {}
theorem op:∀w:bw,(fencedOpening treeTable pE w 20000).map (λs=>(s.heap,s.gens,s.drawn,s.toks))=some (boot_heap w.params,y5 [],boot_drawn,boot_toks) :=
 boot_open (by kernel_rfl) (by decide +kernel) λs=>by kernel_rfl
theorem sz (w:bw):((boot_heap w.params).isNs mainGlobals&&(y5 []:Array GenState).size==0,(boot_heap w.params).objs.size,(boot_heap w.params).nsMap mainGlobals "__annotations__")=(true,11,some (dn 6)):=by kernel_rfl
theorem aC (w:bw)(os:cZ):topGo treeTable pE w 11 lA 12 ⟨boot_heap w.params,y5 [],boot_drawn,boot_toks,os⟩ (topStub pE)=some ((shared (t0 w.params) 15 187 os).abs,⟨denote treeTable jG,jG,⟨0,0,0,0⟩,[topFrame ⟨0,0,0,0⟩]⟩):=by
 rw[A4]
 kernel_rfl
theorem blk (w:bw)(os:cZ):segRun treeTable pE w 11 lA 1 1 (shared (t0 w.params) 15 187 os).abs (blockOf ui px jG ⟨0,0,0,0⟩ [topFrame ⟨0,0,0,0⟩])=some (.next,(shared (t0 w.params) 15 187 os).abs,jG,⟨0,0,0,0⟩):=by
 rw[A4]
 kernel_rfl
noncomputable def qE:cB:={pE with main:={pE.main with body:=pE.main.body.drop 105}}
noncomputable def bound:List bO->List ak
 |[]=>[]
 |.Assign [.Name x _] _ _::r=>x::bound r
 |.FunctionDef x _ _ _ _ _ _ _ _ _::r=>x::bound r
 |.ClassDef x _ _ _ _ _ _ _ _ _ _::r=>x::bound r
 |_::r=>bound r
noncomputable def jq:List ak:=bound (gO.take 105)
abbrev iM (w:bw)(os:cZ):aN:=(shared (tZ w.params) 1099 1692 os).abs
theorem YM (w:bw):(λos=>staticsOk (importedModules pE.main.body) (boot_heap w.params) (iM w os).heap)=λos=>true:=by kernel_rfl
theorem ZC (w:bw):(λos=>namesBound pE (iM w os).heap)=λos=>true:=by kernel_rfl
theorem ZR (w:bw):(λos=>gensDone (iM w os)&&laidKept (boot_heap w.params) (iM w os).heap)=λos=>true:=by kernel_rfl
theorem sn1 (w:bw):(λos=>seen ((recsOf qE).map (·.name)) (ownsOf qE) [] {iM w os with gens:=#[]})=λos=>expectedOf qE:=by kernel_rfl
theorem sn2 (w:bw):(λos=>(iM w os).heap.bltView)=λos=>bltViewBooted:=by kernel_rfl
theorem sn3 (w:bw):(λos=>(iM w os).heap.keysOk (looseW qE jq) ((recsOf qE).map (·.name)) ((litsOf qE).map (·.1)) ((clssOf qE (looseW qE jq)).map (·.name)))=λos=>true:=by kernel_rfl
theorem ZP (w:bw):(λos=>(iM w os).heap.accountedOkI (importedModules pE.main.body)&&(iM w os).heap.isNs mainGlobals&&(iM w os).heap.isNs builtinsNs)=λos=>true:=by kernel_rfl
theorem sn5 (w:bw):(λos=>tablesOk qE (iM w os).heap)=λos=>true:=by kernel_rfl
theorem Yr (w:bw):(λos=>tabsOk qE (iM w os))=λos=>true:=by kernel_rfl
theorem Yq (w:bw):(λos=>pinSeenD qE (drecsOf qE) (iM w os))=λos=>pinGoodD (drecsOf qE):=by kernel_rfl
theorem ZZ (w:bw):(λos=>plainSeenE qE (looseW qE jq) (iM w os))=λos=>plainGoodE qE (looseW qE jq):=by kernel_rfl
theorem Zs (w:bw):(λos=>plainSeenD qE jq (iM w os))=λos=>plainGoodD qE jq:=by kernel_rfl
theorem X4 (w:bw):(λos=>wideSeen qE (iM w os))=λos=>wideGood qE:=by kernel_rfl
theorem XB (w:bw):(λos=>clsSeenW qE jq (iM w os))=λos=>clsGoodW qE jq:=by kernel_rfl
theorem SK {q:cB}{loose mods:List ak}{s:aN}(h1:seen ((recsOf q).map (·.name)) (ownsOf q) [] {s with gens:=#[]}=expectedOf q)(h2:s.heap.bltView=bltViewBooted)
 (h3:s.heap.keysOk (looseW q loose) ((recsOf q).map (·.name)) ((litsOf q).map (·.1)) ((clssOf q (looseW q loose)).map (·.name))=true) (h4:(s.heap.accountedOkI mods&&s.heap.isNs mainGlobals&&s.heap.isNs builtinsNs)=true)
 (h5:tablesOk q s.heap=true) (hg:s.gens.size=0) (h6:tabsOk q s=true) (h7:pinSeenD q (drecsOf q) s=pinGoodD (drecsOf q)) (h8:plainSeenE q (looseW q loose) s=plainGoodE q (looseW q loose)) (h9:plainSeenD q loose s=plainGoodD q loose)
 (lL:wideSeen q s=wideGood q) (pI:clsSeenW q loose s=clsGoodW q loose):openSeen q loose mods (λZ=>true) true s=openGood q loose:=by
 simp only[cc]at h4;unfold openSeen openGood;rw[h1,h2,h3,h4.1.1,h4.1.2,h4.2,h5,h6,h7,h8,h9,lL,pI,hg];rfl
theorem TH (w:bw)(os:cZ):openSeen qE jq (importedModules pE.main.body) (λZ=>true) true (iM w os)=openGood qE jq :=
 SK (congrFun (sn1 w) os) (congrFun (sn2 w) os) (congrFun (sn3 w) os) (congrFun (ZP w) os) (congrFun (sn5 w) os) rfl (congrFun (Yr w) os) (congrFun (Yq w) os) (congrFun (ZZ w) os) (congrFun (Zs w) os) (congrFun (X4 w) os) (congrFun (XB w) os)
theorem RX {w:bw}{os:cZ}{a b c d:Bool}{α:Type}{x y:α}{β:Type}{z:β}(h1:a=true)(h2:b=true)(h3:(c&&d)=true)(h4:x=y):((a&&b&&c&&d),x,z)=(true,y,z):=by
 rw[Bool.and_assoc (a&&b),h1,h2,h3,h4];rfl
theorem Ry {w:bw}{os:cZ}{L8:aN}{T T':BT}{N:Nat}(h1:topGo treeTable pE w 11 lA 12 L8 (topStub pE)=some ((shared T 15 187 os).abs,⟨denote treeTable jG,jG,⟨0,0,0,0⟩,[topFrame ⟨0,0,0,0⟩]⟩))
 (h2:segRun treeTable pE w 11 lA 1 1 (shared T 15 187 os).abs (blockOf ui px jG ⟨0,0,0,0⟩ [topFrame ⟨0,0,0,0⟩])=some (.next,(shared T 15 187 os).abs,jG,⟨0,0,0,0⟩))
 (h3:topRun treeTable pE w 11 lA N (shared T 15 187 os).abs (restOf ui px jG ⟨0,0,0,0⟩ [topFrame ⟨0,0,0,0⟩])=some (shared T' 1099 1692 os).abs) :
 topRun treeTable pE w 11 lA (12+(1+N)) L8 (topStub pE)=some ⟨absHeap T' 1099 {},#[],{},1692,os⟩:=go_top h1 (piece_block h2 h3)
theorem Q9 (w:bw)(os:cZ):topRun treeTable pE w 11 lA (12+(1+(396+(267+(249+(214+(223+(685+(206+(353+(323+(416+(289+(420+(408+(296+(436+(464+(255+(352+(523+(352+2)))))))))))))))))))))) ⟨boot_heap w.params,y5 [],boot_drawn,boot_toks,os⟩ (topStub pE)=some ⟨pA w.params,#[],{},1692,os⟩:=Ry (aC w os) (blk w os) (Tz w os)
theorem Tg {H:bA->bf}{M:Nat}(run:∀(w:bw) (os:cZ),topRun treeTable pE w 11 lA M ⟨boot_heap w.params,y5 [],boot_drawn,boot_toks,os⟩ (topStub pE)=some ⟨H w.params,#[],{},1692,os⟩)(le:fG M 20000=true)
 (k1:∀(w:bw) (os:cZ),staticsOk (importedModules pE.main.body) (boot_heap w.params) (H w.params)=true) (k2:∀(w:bw) (os:cZ),namesBound pE (H w.params)=true)
 (k3:∀(w:bw) (os:cZ),(gensDone ⟨H w.params,#[],{},1692,os⟩&&laidKept (boot_heap w.params) (H w.params))=true)
 (k4:∀(w:bw) (os:cZ),openSeen qE jq (importedModules pE.main.body) (λZ=>true) true ⟨H w.params,#[],{},1692,os⟩=openGood qE jq):LeftO pE qE jq (λZ=>true) yz (λw=>H w.params) 20000:=by
 refine LeftO.of_pieces (Xt:=λZ=>true) (Yf:=yz) (Ya:=λw=>H w.params) (g0:=true) op sz run le λw=>funext λos=>?_;exact RX (w:=w) (os:=os) (k1 w os) (k2 w os) (k3 w os) (k4 w os)
theorem UH {T:BT}{n t:Nat}{os:cZ}:(shared T n t os).abs=⟨absHeap T n {},#[],{},t,os⟩:=rfl
theorem TC:LeftO pE qE jq (λZ=>true) yz (λw=>pA w.params) 20000:=by
 have k1:=λw os=>congrFun (YM w) os;have k2:=λw os=>congrFun (ZC w) os;have k3:=λw os=>congrFun (ZR w) os;have k4:=TH;simp only[iM,UH]at k1 k2 k3 k4;exact Tg Q9 (by decide +kernel) k1 k2 k3 k4
end eH
namespace eH
open PySem PySem.W PySem.Calls PyProof.Rows
set_option maxHeartbeats 0 in
theorem SE:A5.wellSaid=true:=by
 unfold OpenLaw.wellSaid OpenRow.wellSaid OpenRow.partSaid looksOpen;simp only[cc]
 repeat' apply ae
 all_goals decide +kernel
abbrev wH:OpenRow:=A5.row
noncomputable def sj:DefRec×List (ak×Expr):=match defOf qE wH.name with
 |some p=>p
 |none=>⟨⟨Str.empty,⟨[],[],none,[],[],none,[]⟩,[],⟨.module,[],false,false,[]⟩,default⟩,[]⟩
theorem head (call:WalkX qE jq (λZ Z=>True) yz (λw=>pA w.params) wH.toRowW sj.1 sj.2 λf vs=>PySem.call f vs):A5.Holds :=
 holds_law SE λk1=>holds_openX (r:=wH) (q:=qE) (loose:=jq) (Xt:=λZ=>true) (XP:=λZ Z=>True) (d:=sj.1) (kwd:=sj.2) TC (λZ Z=>trivial) (λZ Z Z Z Z=>trivial) (by kernel_rfl) (by kernel_rfl) (by kernel_rfl) (λZ Z=>recFacts_nil rfl) (by decide +kernel) k1 (by decide +kernel)
  ⟨rfl,rfl,rfl,rfl,rfl,by decide +kernel⟩ ⟨[.list []],by decide +kernel,by decide +kernel⟩ call
end eH
end
section
set_option tactic.hygienic false
set_option genInjectivity false
set_option genSizeOf false
open Lean in
local macro_rules
  | `(tactic| rw [$h:term]) => `(tactic| ((first | refine Zq.rwL $h ?_ | fail); try with_reducible rfl))
  | `(tactic| rw [$r:rwRule, $rs:rwRule,*]) => `(tactic| (rw [$r:rwRule]; rw [$rs:rwRule,*]))
namespace Zq
open PySem
inductive Bi where
 |len|ord|chr|max|int|sorted|range|tuple
 |find|startswith|endswith|split|join|replace|lower
 |append|pop
inductive V where
 |none|bool (b:Bool)|int (i:Int)|str (s:ak)
 |ref (i:Nat)|fn (a:ax)|cls (C:ax)|bi (b:Bi)|tup (l:List V)|fj (a:ax) (i:Nat)|cm (n:Int)
  |gG (l:List Int)
inductive O where
 |inst (C:ax) (d:Nat)|dict (l:List (ak×V))|list (l:List V)|cell (v:Option V)|told (t d:Nat)
structure FI where
 ps:List ak
 df:List V
 body:List bO
 scope:fh
 qual:ak
 cd:az
 dV:az
 ro:List ak
structure PE where
 glob:ak->Option V
 fn:ax->Option FI
 jv:ax->ak->Option (Option ax)
 gf:ax->Option ax
 fault:ax
 told:FI
structure Fm where
 sc:fh
 loc:List (ak×V)
 cz:List (ak×Nat)
 d:Nat
 ro:List ak
inductive It where
 |tup (l:List V)|cm (k n:Int)|str (l:List Nat)|list (i k:Nat)
inductive Fl where
 |next|brk|ret (v:V)
inductive Jb where
 |e (U:Fm) (x:Expr)
 |es (U:Fm) (xs:List Expr)
 |t (U:Fm) (x:Expr)
 |ts (U:Fm) (op:BoolOp) (xs:List Expr)
 |bo (U:Fm) (op:BoolOp) (xs:List Expr)
 |ch (U:Fm) (v:V) (bW:List mw) (xs:List Expr)
 |s (U:Fm) (x:bO)
 |ss (U:Fm) (xs:List bO)
 |wh (U:Fm) (test:Expr) (body:List bO)
 |fo (U:Fm) (nX:Expr) (it:It) (body:List bO)
 |cp (U:Fm) (elt nX:Expr) (ifs:List Expr) (it:It) (aA:Nat)
 |as (U:Fm) (nX:Expr) (v:V)
 |ca (d:Nat) (f:V) (av:List V)
inductive An where
 |v (v:V)|vs (l:List V)|b (b:Bool)|f (fl:Fl) (U:Fm)
abbrev Sg:=List O
inductive Rs (α:Type) where
 |ok (a:α)|exc
theorem Rs.ok.inj (h:Rs.ok a=.ok b):a=b:=by cases h;rfl
theorem An.v.inj {a b:V}(h:An.v a=.v b):a=b:=by cases h;rfl
abbrev Mo (α:Type):=Sg->Option (Rs α×Sg)
noncomputable def rt {α:Type}(a:α):Mo α:=λσ=>some (.ok a,σ)
noncomputable def no {α:Type}:Mo α:=λZ=>none
noncomputable def ex {α:Type}:Mo α:=λσ=>some (.exc,σ)
noncomputable def bd {α β:Type}(m:Mo α)(f:α->Mo β):Mo β:=λσ=>match m σ with
 |none=>none
 |some (.exc,aj)=>some (.exc,aj)
 |some (.ok a,aj)=>f a aj
noncomputable def nx {α:Type}(m:Mo α):Mo α:=λσ=>match m σ with
 |some (.ok a,aj)=>some (.ok a,aj)
 |_=>none
noncomputable def aX {α:Type}(o:Option α):Mo α:=match o with
 |some a=>rt a
 |none=>no
noncomputable def gt {α:Type}(f:Sg->Option α):Mo α:=λσ=>match f σ with
 |some a=>some (.ok a,σ)
 |none=>none
noncomputable def al (o:O):Mo Nat:=λσ=>some (.ok σ.length,σ++[o])
@[reducible] noncomputable def eD {α:Type}(e:bT)(d:α)(vY:PySem.BoolOp->List bT->aZ->α:=λZ Z Z=>d)(Qm:bT->bT->aZ->α:=λZ Z Z=>d)(we:bT->uc->bT->aZ->α:=λZ Z Z Z=>d)(vT:UnaryOp->bT->aZ->α:=λZ Z Z=>d)(Th:rY->bT->fh->aZ->α:=λZ Z Z Z=>d)(v9:bT->bT->bT->aZ->α:=λZ Z Z Z=>d)(DA:List (Option bT)->List bT->aZ->α:=λZ Z Z=>d)(LX:List bT->Nat->aZ->α:=λZ Z Z=>d)(tP:bT->List CD->fh->aZ->α:=λZ Z Z Z=>d)(Jh:bT->List CD->fh->aZ->α:=λZ Z Z Z=>d)(Ig:bT->bT->List CD->fh->aZ->α:=λZ Z Z Z Z=>d)(OY:bT->List CD->fh->aZ->α:=λZ Z Z Z=>d)(Up:bT->aZ->α:=λZ Z=>d)(US:Option bT->aZ->α:=λZ Z=>d)(Qc:bT->aZ->α:=λZ Z=>d)(rO:bT->List mw->List bT->aZ->α:=λZ Z Z Z=>d)(qC:bT->List bT->List Keyword->aZ->α:=λZ Z Z Z=>d)(OS:bT->Int->Option bT->aZ->α:=λZ Z Z Z=>d)(Qh:List bT->aZ->α:=λZ Z=>d)(yo:Const->Nat->aZ->α:=λZ Z Z=>d)(qh:bT->ak->aZ->α:=λZ Z Z=>d)(vE:bT->bT->aZ->α:=λZ Z Z=>d)(Jf:bT->aZ->α:=λZ Z=>d)(nh:ak->aZ->α:=λZ Z=>d)(DG:List bT->aZ->α:=λZ Z=>d)(qw:List bT->Nat->aZ->α:=λZ Z Z=>d)(y8:Option bT->Option bT->Option bT->aZ->α:=λZ Z Z Z=>d):α:=cR e vY Qm we vT Th v9 DA LX tP Jh Ig OY Up US Qc rO qC OS Qh yo qh vE Jf nh DG qw y8
@[reducible] noncomputable def sD {α:Type}(s:iH)(d:α)(Bs:ak->rY->List iH->List bT->Option bT->List TypeParam->fh->Option fh->ak->aZ->α:=λZ Z Z Z Z Z Z Z Z Z=>d)(OI:ak->rY->List iH->List bT->Option bT->List TypeParam->fh->Option fh->ak->aZ->α:=λZ Z Z Z Z Z Z Z Z Z=>d)(Iu:ak->List bT->List Keyword->List iH->List bT->List TypeParam->fh->Option fh->ak->List ak->aZ->α:=λZ Z Z Z Z Z Z Z Z Z Z=>d)(v8:Option bT->aZ->α:=λZ Z=>d)(SN:List bT->aZ->α:=λZ Z=>d)(vZ:List bT->bT->aZ->α:=λZ Z Z=>d)(PS:bT->List TypeParam->bT->fh->Option fh->ak->aZ->α:=λZ Z Z Z Z Z Z=>d)(Qi:bT->uc->bT->aZ->α:=λZ Z Z Z=>d)(P7:bT->bT->Option bT->Int->aZ->α:=λZ Z Z Z Z=>d)(kFor:bT->bT->List iH->List iH->aZ->α:=λZ Z Z Z Z=>d)(Qz:bT->bT->List iH->List iH->aZ->α:=λZ Z Z Z Z=>d)(zb:bT->List iH->List iH->aZ->α:=λZ Z Z Z=>d)(Av:bT->List iH->List iH->aZ->α:=λZ Z Z Z=>d)(Vu:List WithItem->List iH->aZ->α:=λZ Z Z=>d)(P4:List WithItem->List iH->aZ->α:=λZ Z Z=>d)(Va:bT->List MatchCase->aZ->α:=λZ Z Z=>d)(zf:Option bT->Option bT->aZ->α:=λZ Z Z=>d)(zU:List iH->List ExceptHandler->List iH->List iH->aZ->α:=λZ Z Z Z Z=>d)(Sy:List iH->List ExceptHandler->List iH->List iH->aZ->α:=λZ Z Z Z Z=>d)(TO:bT->Option bT->aZ->α:=λZ Z Z=>d)(Tj:List Alias->aZ->α:=λZ Z=>d)(Pp:Option ak->List Alias->Option Int->aZ->α:=λZ Z Z Z=>d)(SO:List ak->aZ->α:=λZ Z=>d)(Qr:List ak->aZ->α:=λZ Z=>d)(Ed:bT->aZ->α:=λZ Z=>d)(Ea:aZ->α:=λZ=>d)(Dj:aZ->α:=λZ=>d)(Q5:aZ->α:=λZ=>d):α:=vg s Bs OI Iu v8 SN vZ PS Qi P7 kFor Qz zb Av Vu P4 Va zf zU Sy TO Tj Pp SO Qr Ed Ea Dj Q5
noncomputable def o7:List Nat->List Nat->Bool
 |[],[]=>true
 |a::l,b::r=>match bx a b with
  |true=>o7 l r
  |false=>false
 |_,_=>false
noncomputable def bg (a b:ak):Bool:=o7 a.cps.toList b.cps.toList
noncomputable def lk {α:Type}(x:ak):List (ak×α)->Option α
 |[]=>none
 |p::r=>match bg x p.1 with
  |true=>some p.2
  |false=>lk x r
noncomputable def pu (x:ak)(v:V):List (ak×V)->List (ak×V)
 |[]=>[(x,v)]
 |p::r=>match bg x p.1 with
  |true=>(p.1,v)::r
  |false=>p::pu x v r
noncomputable def ay {α:Type}:List α->Nat->Option α
 |[],_=>none
 |a::_,0=>some a
 |_::r,n+1=>ay r n
noncomputable def bG {α:Type}:List α->Nat->α->List α
 |[],_,_=>[]
 |_::r,0,b=>b::r
 |a::r,n+1,b=>a::bG r n b
noncomputable def fits (n:Nat):Bool:=fG n 16777216
noncomputable def listAt (i:Nat)(σ:Sg):Option (List V):=match ay σ i with
 |some (.list l)=>some l
 |_=>none
noncomputable def qz (i:Nat)(σ:Sg):Option (List (ak×V)):=match ay σ i with
 |some (.dict l)=>some l
 |_=>none
noncomputable def sd (i:Nat)(σ:Sg):Option (ax×Nat):=match ay σ i with
 |some (.inst C d)=>some (C,d)
 |_=>none
noncomputable def zk (i:Nat)(σ:Sg):Option (Nat×Nat):=match ay σ i with
 |some (.told a b)=>some (a,b)
 |_=>none
noncomputable def put (i:Nat)(o:O):Mo Unit:=λσ=>match ay σ i with
 |some _=>some (.ok (),bG σ i o)
 |none=>none
noncomputable def lI (f:V->V->Option Bool):List V->List V->Option Bool
 |[],[]=>some true
 |a::l,b::r=>match f a b,lI f l r with
  |some x,some y=>some (x&&y)
  |_,_=>none
 |[],_::_=>some false
 |_::_,[]=>some false
noncomputable def jf:Nat->V->V->Option Bool
 | 0,_,_=>none
 |k+1,a,b=>match a,b with
  |.none,.none=>some true
  |.bool a,.bool b=>some (a==b)
  |.int a,.int b=>some (decide (a=b))
  |.str a,.str b=>some (bg a b)
  |.tup a,.tup b=>lI (jf k) a b
  |.none,.str _=>some false
  |.str _,.none=>some false
  |.none,.tup _=>some false
  |.tup _,.none=>some false
  |.none,.int _=>some false
  |.int _,.none=>some false
  |_,_=>none
noncomputable def fb {α β:Type}:List α->List β->Bool
 |[],[]=>true
 |_::l,_::r=>fb l r
 |_,_=>false
noncomputable def pK (a b:List V):Option Bool:=match fb a b with
 |true=>lI (jf 8) a b
 |false=>some false
noncomputable def truth (v:V)(_σ:Sg):Option Bool:=match v with
 |.none=>some false
 |.bool b=>some b
 |_=>none
noncomputable def bI (x:ak)(sc:fh):Option lu:=lk x sc.names
section
variable (P:PE)(Γ:ax->Option (Nat->List V->Mo V))
noncomputable def ig (U:Fm)(x:ak):Mo V:=match bI x U.sc with
 |some .local=>aX (lk x U.loc)
 |some .globalImplicit=>aX (P.glob x)
 |some .cell=>bd (aX (lk x U.cz)) λi=>gt λσ=>match ay σ i with
  |some (.cell v)=>v
  |_=>none
 |some .free=>bd (aX (lk x U.cz)) λi=>gt λσ=>match ay σ i with
  |some (.cell v)=>v
  |_=>none
 |_=>no
noncomputable def gw (U:Fm)(x:ak)(v:V):Mo Fm:=match bI x U.sc with
 |some .local=>(match U.ro.any (bg x) with
  |true=>no
  |false=>rt {U with loc:=pu x v U.loc})
 |some .cell=>bd (aX (lk x U.cz)) λi=>bd (gt λσ=>match ay σ i with
  |some (.cell _)=>some ()
  |_=>none) λZ=>bd (put i (.cell (some v))) λZ=>rt U
 |_=>no
noncomputable def sg (o:V)(x:ak):Mo V:=match o with
 |.ref i=>bd (gt (sd i)) λCd=>bd (gt (qz Cd.2)) λl=>match lk x l with
  |some v=>(match P.jv Cd.1 x with
   |some none=>rt v
   |_=>no)
  |none=>(match P.jv Cd.1 x with
   |some (some a)=>rt (.fj a i)
   |_=>no)
 |_=>no
noncomputable def Dv (o:V)(x:ak)(v:V):Mo Unit:=match o with
 |.ref i=>bd (gt (sd i)) λCd=>bd (gt (qz Cd.2)) λl=>match P.jv Cd.1 x with
  |some none=>(match fits l.length with
   |true=>put Cd.2 (.dict (pu x v l))
   |false=>no)
  |_=>no
 |_=>no
noncomputable def Eb (x:ak):Option Bi :=
 if bg x "find" then some .find else if bg x "startswith" then some .startswith else if bg x "endswith" then some .endswith
 else if bg x "split" then some .split else if bg x "join" then some .join else if bg x "replace" then some .replace
 else if bg x "lower" then some .lower else none
noncomputable def wG (x:ak):Option Bi:=if bg x "append" then some .append else if bg x "pop" then some .pop else none
noncomputable def mq (o:V)(x:ak):Mo (V×List V):=match o with
 |.str _=>bd (aX (Eb x)) λb=>rt (.bi b,[o])
 |.ref i=>λσ=>match ay σ i with
  |some (.list _)=>bd (aX (wG x)) (λb=>rt (.bi b,[o])) σ
  |some (.inst C d)=>bd (gt (qz d)) (λl=>match lk x l with
   |some v=>(match P.jv C x with
    |some none=>rt (v,[])
    |_=>no)
   |none=>(match P.jv C x with
    |some (some a)=>rt (.fn a,[o])
    |_=>no)) σ
  |_=>none
 |_=>no
noncomputable def Em (a b:V):Mo V:=match a,b with
 |.int x,.int y=>rt (.int (x+y))
 |.str x,.str y=>(match fits (x.length+y.length) with|true=>rt (.str (x++y))|false=>no)
 |.ref i,.ref j=>bd (gt (listAt i)) λl=>bd (gt (listAt j)) λr=>match fits (l.length+r.length) with
  |true=>bd (al (.list (l++r))) λk=>rt (.ref k)
  |false=>no
 |_,_=>no
noncomputable def small (x:Int):Bool:=decide (-(2^64)<x/\x<2^64)
noncomputable def gW (op:uc)(a b:V):Mo V:=match op with
 |.Add=>Em a b
 |.Sub=>(match a,b with
  |.int x,.int y=>rt (.int (x-y))
  |_,_=>no)
 |.Mult=>(match a,b with
  |.int x,.int y=>(match small x||small y with|true=>rt (.int (x*y))|false=>no)
  |_,_=>no)
 |.FloorDiv=>(match a,b with
  |.int x,.int y=>if y=0 then no else rt (.int (x.fdiv y))
  |_,_=>no)
 |.Mod=>(match a,b with
  |.int x,.int y=>if y=0 then no else rt (.int (x.fmod y))
  |_,_=>no)
 |.Pow=>(match a,b with
  |.int x,.int y=>(match small x&&decide (0<=y/\y<=1000000) with|true=>rt (.int (x^y.toNat))|false=>no)
  |_,_=>no)
 |_=>no
noncomputable def zd:List Nat->List Nat->Bool
 |[],[]=>false
 |[],_::_=>true
 |_::_,[]=>false
 |a::l,b::r=>match cE a b with
  |true=>true
  |false=>match bx a b with
   |true=>zd l r
   |false=>false
noncomputable def Af (a b:V):Mo Bool:=match a,b with
 |.ref i,.ref j=>bd (gt (listAt i)) λl=>bd (gt (listAt j)) λr=>aX (pK l r)
 |_,_=>aX (jf 8 a b)
noncomputable def isNone:V->Option Bool
 |.none=>some true
 |.bool _=>some false
 |.int _=>some false
 |.str _=>some false
 |.ref _=>some false
 |.tup _=>some false
 |.fj _ _=>some false
 |_=>none
noncomputable def subIn (x:List Nat):List Nat->Bool
 |[]=>dh x []
 |b::r=>match dh x (b::r) with
  |true=>true
  |false=>subIn x r
noncomputable def mT:List V->Option (List ak)
 |[]=>some []
 |.str s::r=>(mT r).map (s::·)
 |_=>none
noncomputable def Ar (a b:V):Mo Bool:=match a,b with
 |.str x,.str y=>rt (subIn x.cps.toList y.cps.toList)
 |.str x,.ref i=>λσ=>match ay σ i with
  |some (.list l)=>(match mT l with
   |some ss=>some (.ok (ss.any (bg x)),σ)
   |none=>none)
  |some (.dict l)=>some (.ok (lk x l).isSome,σ)
  |_=>none
 |_,_=>no
noncomputable def fZ (op:mw)(a b:V):Mo Bool:=match op with
 |.Eq=>Af a b
 |.NotEq=>bd (Af a b) λr=>rt (!r)
 |.Lt=>(match a,b with
  |.int x,.int y=>rt (decide (x<y))
  |_,_=>no)
 |.LtE=>(match a,b with
  |.int x,.int y=>rt (decide (x<=y))
  |.str x,.str y=>rt (!zd y.cps.toList x.cps.toList)
  |_,_=>no)
 |.Gt=>(match a,b with
  |.int x,.int y=>rt (decide (x>y))
  |_,_=>no)
 |.GtE=>(match a,b with
  |.int x,.int y=>rt (decide (x>=y))
  |_,_=>no)
 |.Is=>(match b with
  |.none=>aX (isNone a)
  |_=>no)
 |.IsNot=>(match b with
  |.none=>bd (aX (isNone a)) λr=>rt (!r)
  |_=>no)
 |.In=>Ar a b
 |.NotIn=>bd (Ar a b) λr=>rt (!r)
noncomputable def place (k:Int)(n:Nat):Option Nat:=match fits n with
 |true=>(match k with
  |.ofNat i=>(match cE i n with|true=>some i|false=>none)
  |.negSucc i=>(match fG (i+1) n with|true=>some (n-(i+1))|false=>none))
 |false=>none
noncomputable def rV (s:ak)(k:Int):Option ak:=match place k s.cps.toList.length with
 |some i=>(ay s.cps.toList i).map λc=>⟨#[c]⟩
 |none=>none
noncomputable def je:V->Option ak
 |.str s=>some s
 |_=>none
noncomputable def lO:V->Option Int
 |.int i=>some i
 |_=>none
noncomputable def tu:V->Option Nat
 |.ref i=>some i
 |_=>none
noncomputable def qK (l:List V)(k:Int):Mo V:=aX ((place k l.length).bind (ay l))
noncomputable def iu (o i:V):Mo V:=match o with
 |.str s=>bd (aX (lO i)) λk=>aX ((rV s k).map V.str)
 |.tup l=>bd (aX (lO i)) λk=>qK l k
 |.ref r=>(match i with
  |.int k=>bd (gt (listAt r)) λl=>qK l k
  |.str x=>bd (gt (qz r)) λl=>aX (lk x l)
  |_=>no)
 |.gG l=>bd (aX (lO i)) λk=>qK (l.map V.int) k
 |_=>no
noncomputable def bound (k:Int)(n:Nat):Nat:=match k with
 |.ofNat i=>min i n
 |.negSucc i=>n-(i+1)
noncomputable def iz (s:ak)(a b:Nat):ak:=⟨((s.cps.toList.take b).drop a).toArray⟩
noncomputable def js (o:V)(lo hi:Option V):Mo V:=match o with
 |.str s=>(match fits s.cps.toList.length with
  |false=>no
  |true=>match lo,hi with
  |none,some (.int j)=>rt (.str (iz s 0 (bound j s.cps.toList.length)))
  |some (.int i),none=>rt (.str (iz s (bound i s.cps.toList.length) s.cps.toList.length))
  |some (.int i),some (.int j)=>rt (.str (iz s (bound i s.cps.toList.length) (bound j s.cps.toList.length)))
  |_,_=>no)
 |_=>no
noncomputable def mZ (o i v:V):Mo Unit:=match o,i with
 |.ref r,.int k=>bd (gt (listAt r)) λl=>bd (aX (place k l.length)) λj=>put r (.list (bG l j v))
 |.ref r,.str x=>bd (gt (qz r)) λl=>(match fits l.length with
  |true=>put r (.dict (pu x v l))
  |false=>no)
 |_,_=>no
noncomputable def rX:List V->Option (List Int)
 |[]=>some []
 |.int s::r=>(rX r).map (s::·)
 |_=>none
noncomputable def insI (a:Int):List Int->List Int
 |[]=>[a]
 |b::r=>if a<=b then a::b::r else b::insI a r
noncomputable def sortI:List Int->List Int
 |[]=>[]
 |a::r=>insI a (sortI r)
noncomputable def fz (x:List Nat):Nat->List Nat->Option Nat
 |i,[]=>match dh x [] with|true=>some i|false=>none
 |i,b::r=>match dh x (b::r) with
  |true=>some i
  |false=>fz x (i+1) r
noncomputable def n5 (k:Int)(n:Nat):Nat:=match k with
 |.ofNat i=>i
 |.negSucc i=>n-(i+1)
noncomputable def iQ (y x:ak)(a:Nat):Int:=match fG a y.cps.toList.length with
 |true=>(match fz x.cps.toList a (y.cps.toList.drop a) with|some i=>.ofNat i|none=>-1)
 |false=>-1
noncomputable def Df (y x:ak)(a b:Nat):Int:=match fG a b with
 |true=>(match fz x.cps.toList a ((y.cps.toList.take b).drop a) with|some i=>.ofNat i|none=>-1)
 |false=>-1
noncomputable def nT (y x:ak)(a:Nat):Bool:=match fG a y.cps.toList.length with
 |true=>dh x.cps.toList (y.cps.toList.drop a)
 |false=>false
noncomputable def jH (y x:ak):Bool:=dh x.cps.toList.reverse y.cps.toList.reverse
noncomputable def eI (x:List Nat):List (List Nat)->List Nat
 |[]=>[]
 |[a]=>a
 |a::r=>a++x++eI x r
noncomputable def sQ:List V->Option (List V×V)
 |[]=>none
 |[v]=>some ([],v)
 |a::b::r=>match sQ (b::r) with
  |some p=>some (a::p.1,p.2)
  |none=>none
noncomputable def one (av:List V)(f:V->Mo V):Mo V:=match av with
 |[]=>no
 |a::r=>match r with
  |[]=>f a
  |_::_=>no
noncomputable def two (av:List V)(f:V->V->List V->Mo V):Mo V:=match av with
 |[]=>no
 |a::r=>match r with
  |[]=>no
  |b::r=>f a b r
noncomputable def qR (r:List V)(m:Mo V):Mo V:=match r with
 |[]=>m
 |_::_=>no
noncomputable def zw (r:List V)(m:Mo V)(f:V->List V->Mo V):Mo V:=match r with
 |[]=>m
 |a::r=>f a r
noncomputable def uu (n:Nat):Mo V:=match fits n with
 |true=>rt (.int (.ofNat n))
 |false=>no
noncomputable def cw (b:Bi)(av:List V):Mo V:=match b with
 |.len=>one av λa=>(match a with
  |.str s=>uu s.cps.toList.length
  |.tup l=>uu l.length
  |.ref i=>bd (gt (listAt i)) λl=>uu l.length
  |.gG l=>uu l.length
  |_=>no)
 |.ord=>one av λa=>bd (aX (je a)) λs=>(match s.cps.toList with|[c]=>rt (.int (.ofNat c))|_=>no)
 |.chr=>one av λa=>bd (aX (lO a)) λi=>(match decide (0<=i/\i<=1114111) with|true=>rt (.str ⟨#[i.toNat]⟩)|false=>no)
 |.max=>two av λa b r=>bd (aX (lO a)) λa=>bd (aX (lO b)) λb=>qR r (rt (.int (if b>a then b else a)))
 |.int=>one av λa=>(match a with
  |.int a=>rt (.int a)
  |.bool b=>rt (.int (match b with|true=>1|false=>0))
  |_=>no)
 |.sorted=>one av λa=>bd (aX (tu a)) λi=>bd (gt (listAt i)) λl=>bd (aX (rX l)) λns=>match cE ns.length 64 with
  |true=>bd (al (.list ((sortI ns).map V.int))) λk=>rt (.ref k)
  |false=>no
 |.range=>one av λa=>bd (aX (lO a)) λn=>rt (.cm n)
 |.tuple=>one av λa=>bd (aX (tu a)) λi=>bd (gt (listAt i)) λl=>(match fits l.length with|true=>rt (.tup l)|false=>no)
 |.find=>two av λa b r=>bd (aX (je a)) λy=>bd (aX (je b)) λx=>zw r (rt (.int (iQ y x 0))) λi r=>bd (aX (lO i)) λi =>
  zw r (rt (.int (iQ y x (n5 i y.cps.toList.length)))) λj r=>bd (aX (lO j)) λj =>
   qR r (rt (.int (Df y x (n5 i y.cps.toList.length) (bound j y.cps.toList.length))))
 |.startswith=>two av λa b r=>bd (aX (je a)) λy=>bd (aX (je b)) λx=>zw r (rt (.bool (nT y x 0))) λi r=>bd (aX (lO i)) λi=>qR r (rt (.bool (nT y x (n5 i y.cps.toList.length))))
 |.endswith=>two av λa b r=>bd (aX (je a)) λy=>bd (aX (je b)) λx=>qR r (rt (.bool (jH y x)))
 |.split=>two av λa b r=>bd (aX (je a)) λy=>bd (aX (je b)) λx=>qR r (match x.cps.toList with
  |[]=>no
  |_::_=>(match fits (y.cps.toList.length+2) with
   |true=>bd (al (.list ((fa y x).map V.str))) λk=>rt (.ref k)
   |false=>no))
 |.join=>two av λa b r=>bd (aX (je a)) λx=>bd (aX (tu b)) λi=>qR r (bd (gt (listAt i)) λl=>bd (aX (mT l)) λss =>
  (match fits (ss.foldl (λn s=>n+s.length+x.length) 0) with
  |true=>rt (.str ⟨(eI x.cps.toList (ss.map (·.cps.toList))).toArray⟩)
  |false=>no))
 |.lower=>one av λa=>bd (aX (je a)) λy=>(match o7 y.cps.toList [116] with
  |true=>rt (.str "t")
  |false=>no)
 |.replace=>two av λa b r=>bd (aX (je a)) λy=>bd (aX (je b)) λa=>one r λc=>bd (aX (je c)) λZ=>(match subIn a.cps.toList y.cps.toList with
  |true=>no
  |false=>rt (.str y))
 |.append=>two av λa v r=>bd (aX (tu a)) λi=>qR r (bd (gt (listAt i)) λl=>(match fits (l.length+1) with
  |true=>bd (put i (.list (l++[v]))) λZ=>rt .none
  |false=>no))
 |.pop=>one av λa=>bd (aX (tu a)) λi=>bd (gt (listAt i)) λl=>(match fits l.length with
  |true=>bd (aX (sQ l)) λp=>bd (put i (.list p.1)) λZ=>rt p.2
  |false=>no)
noncomputable def j7 (v:V):Mo It:=match v with
 |.tup l=>rt (.tup l)
 |.cm n=>(match decide (0<=n/\n<=16777216) with|true=>rt (.cm 0 n)|false=>no)
 |.str s=>rt (.str s.cps.toList)
 |.ref i=>bd (gt (listAt i)) λZ=>rt (.list i 0)
 |_=>no
noncomputable def fB (it:It)(σ:Sg):Option (Option (V×It)):=match it with
 |.tup []=>some none
 |.tup (v::r)=>some (some (v,.tup r))
 |.cm k n=>if k<n then some (some (.int k,.cm (k+1) n)) else some none
 |.str []=>some none
 |.str (c::r)=>some (some (.str ⟨#[c]⟩,.str r))
 |.list i k=>(match listAt i σ with
  |some l=>(match ay l k with
   |some v=>some (some (v,.list i (k+1)))
   |none=>some none)
  |none=>none)
noncomputable def jr:List ak->List V->List V->Option (List (ak×V))
 |[],[],_=>some []
 |x::ps,v::vs,df=>(jr ps vs df).map ((x,v)::·)
 |ps,[],df=>match fb ps (df.drop (df.length-ps.length)) with
  |true=>some (ps.zip (df.drop (df.length-ps.length)))
  |false=>none
 |[],_::_,_=>none
noncomputable def dS (sc:fh):List ak:=sc.names.filterMap λp=>match p.2 with
 |.cell=>some p.1
 |_=>none
noncomputable def mU (b:List (ak×V)):List ak->Mo (List (ak×Nat))
 |[]=>rt []
 |x::r=>bd (al (.cell (lk x b))) λi=>bd (mU b r) λl=>rt ((x,i)::l)
noncomputable def mi (l:List ak)(x:ak):Bool:=l.any (bg x)
variable (self:Jb->Mo An)
noncomputable def sE (U:Fm)(x:Expr):Mo V:=bd (self (.e U x)) λ
 |.v v=>rt v
 |_=>no
noncomputable def eZ (U:Fm)(x:List Expr):Mo (List V):=bd (self (.es U x)) λ
 |.vs v=>rt v
 |_=>no
noncomputable def sT (U:Fm)(x:Expr):Mo Bool:=bd (self (.t U x)) λ
 |.b v=>rt v
 |_=>no
noncomputable def sV (j:Jb):Mo V:=bd (self j) λ
 |.v v=>rt v
 |_=>no
noncomputable def sB (j:Jb):Mo Bool:=bd (self j) λ
 |.b v=>rt v
 |_=>no
noncomputable def sF (j:Jb):Mo (Fl×Fm):=bd (self j) λ
 |.f fl U=>rt (fl,U)
 |_=>no
noncomputable def Di:Const->Option V
 |.none=>some .none
 |.bool b=>some (.bool b)
 |.int i=>some (.int i)
 |.str s=>some (.str s)
 |_=>none
noncomputable def jX (e:Expr):Bool:=eD e false (Jf:=λZ Z=>true)
noncomputable def noStar:List Expr->Bool
 |[]=>true
 |x::r=>match jX x with
  |true=>false
  |false=>noStar r
noncomputable def gv (e:Expr):Bool:=eD e false (LX:=λZ Z Z=>true)
noncomputable def mR (e:Expr):Bool:=eD e true (qC:=λf a k Z=>!(eD f false (nh:=λZ Z=>true)&&a.isEmpty&&k.isEmpty))
noncomputable def nY (o:Expr)(apos pos:aZ)(av:List Expr):Bool:=mR o&&bx apos.endLine pos.line&&noStar av&&cE av.length 30
noncomputable def qM (a:ax):Bool:=match P.fn a with
 |some _=>true
 |none=>(match Γ a with
  |some _=>true
  |none=>false)
noncomputable def callable (f:V)(σ:Sg):Option Unit:=match f with
 |.fn a=>(match qM P Γ a with|true=>some ()|false=>none)
 |.fj a _=>(match qM P Γ a with|true=>some ()|false=>none)
 |.cls C=>(match P.gf C with|some _=>some ()|none=>none)
 |.bi _=>some ()
 |.ref i=>(match ay σ i with
  |some (.told _ _)=>some ()
  |_=>none)
 |_=>none
noncomputable def iN (e:Expr):Bool:=eD e false (tP:=λZ Z Z Z=>true) (Jh:=λZ Z Z Z=>true) (Ig:=λZ Z Z Z Z=>true)
noncomputable def nZ (U:Fm)(sc:fh)(iter:Expr):Bool:=!gv iter&&(match sc.kind with|.function=>true|_=>false)&&sc.names.all λp=>!bg p.1 "__debug__" && !bg p.1 "__classdict__" && (match p.2 with
 |.local=>(match bI p.1 sc with|some .local=>true|_=>false)
 |.globalImplicit=>true
 |.free=>(match bI p.1 U.sc,lk p.1 U.cz with|some .cell,some _=>true|_,_=>false)
 |_=>false)
noncomputable def lJ (U:Fm):Option Expr->Mo (Option V)
 |none=>rt none
 |some x=>bd (sE self U x) λv=>rt (some v)
noncomputable def fH (U:Fm)(e:Expr):Mo V:=eD e no
 (yo:=λc Z Z=>aX (Di c))
 (nh:=λx Z=>ig P U x)
 (vY:=λop xs Z=>sV self (.bo U op xs))
 (we:=λl op r Z=>bd (sE self U l) λa=>bd (sE self U r) λb=>gW op a b)
 (vT:=λop x Z=>match op with
  |.Not=>bd (sE self U x) λa=>bd (gt (truth a)) λb=>rt (.bool !b)
  |.USub=>bd (sE self U x) λa=>(match a with
   |.int i=>rt (.int (-i))
   |_=>no)
  |_=>no)
 (v9:=λt b o Z=>bd (sT self U t) λc=>(match c with
  |true=>sE self U b
  |false=>sE self U o))
 (rO:=λl bW xs Z=>bd (sE self U l) λa=>sV self (.ch U a bW xs))
 (qC:=λf av kw pos=>match kw with
  |_::_=>no
  |[]=>eD f no
   (qh:=λo x apos=>match nY o apos pos av with
    |false=>no
    |true=>bd (sE self U o) λov=>bd (mq P ov x) λfv=>bd (eZ self U av) λvs=>bd (gt (callable P Γ fv.1)) λZ=>sV self (.ca U.d fv.1 (fv.2++vs)))
   (nh:=λf p=>match noStar av with
    |false=>no
    |true=>bd (sE self U (.Name f p)) λfv=>bd (eZ self U av) λvs=>bd (gt (callable P Γ fv)) λZ=>sV self (.ca U.d fv vs)))
 (qh:=λo x Z=>match mR o with
  |false=>no
  |true=>bd (sE self U o) λov=>sg P ov x)
 (vE:=λo i Z=>eD i (bd (sE self U o) λov=>bd (sE self U i) λiv=>iu ov iv)
  (y8:=λlo hi st Z=>match st with
   |none=>bd (sE self U o) λov=>bd (lJ self U lo) λa=>bd (lJ self U hi) λb=>js ov a b
   |some _=>no))
 (qw:=λxs Z Z=>bd (eZ self U xs) λl=>match fits l.length with|true=>rt (.tup l)|false=>no)
 (DG:=λxs Z=>bd (eZ self U xs) λl=>match fits l.length with|true=>bd (al (.list l)) λk=>rt (.ref k)|false=>no)
 (DA:=λks vs Z=>match ks with
  |[]=>(match vs with
   |[]=>bd (al (.dict [])) λk=>rt (.ref k)
   |_::_=>no)
  |_::_=>no)
 (tP:=λelt gs sc Z=>match gs with
  |[⟨nX,iter,ifs,0⟩]=>(match nZ U sc iter with
   |true=>bd (sE self U iter) λv=>bd (j7 v) λit=>bd (al (.list [])) λk =>
   nx (sV self (.cp {sc:=sc,loc:=[],cz:=U.cz,d:=U.d,ro:=[]} elt nX ifs it k))
   |false=>no)
  |_=>no)
noncomputable def stepT (U:Fm)(e:Expr):Mo Bool:=eD e (bd (sE self U e) λv=>gt (truth v))
 (vT:=λop x Z=>match op with
  |.Not=>bd (sT self U x) λb=>rt (!b)
  |_=>bd (sE self U e) λv=>gt (truth v))
 (vY:=λop xs Z=>sB self (.ts U op xs))
 (v9:=λt b o Z=>bd (sT self U t) λc=>(match c with
  |true=>sT self U b
  |false=>sT self U o))
 (rO:=λl bW xs Z=>bd (sE self U l) λa=>bd (sV self (.ch U a bW xs)) λv=>gt (truth v))
noncomputable def uM (e:Expr):Option ak:=eD e none (nh:=λc Z=>some c)
noncomputable def namesOf:List Expr->Option (List ak)
 |[]=>some []
 |x::r=>(uM x).bind λn=>(namesOf r).map (n::·)
noncomputable def fC (U:Fm):List ak->List V->Mo Fm
 |[],[]=>rt U
 |x::xs,v::vs=>bd (gw U x v) λU=>fC U xs vs
 |_,_=>no
noncomputable def fg (U:Fm)(v:V)(e:Expr):Mo Fm:=eD e no
 (nh:=λx Z=>gw U x v)
 (qh:=λo x Z=>bd (sE self U o) λov=>bd (Dv P ov x v) λZ=>rt U)
 (vE:=λo i Z=>bd (sE self U o) λov=>bd (sE self U i) λiv=>bd (mZ ov iv v) λZ=>rt U)
 (qw:=λxs Z Z=>bd (aX (namesOf xs)) λns=>match v with
  |.tup l=>(match fb ns l with
   |true=>fC U ns l
   |false=>no)
  |.ref i=>bd (gt (listAt i)) λl=>(match fb ns l with
   |true=>fC U ns l
   |false=>no)
  |_=>no)
noncomputable def cW (U:Fm):Fm:={U with loc:=U.loc.filter λp=>U.ro.any (bg p.1)}
noncomputable def Vn (e:Expr):Bool:=eD e false (qw:=λZ Z Z=>true)
noncomputable def oX (t x:Expr):Bool:=Vn t&&eD x false (qw:=λvs Z Z=>vs.all (constantsAlone 8))
noncomputable def jV:V->Bool
 |.cls C=>bx C P.fault
 |_=>false
noncomputable def ml:List V->Mo (Fl×Fm)
 |[.str _]=>ex
 |[.str _,.int _]=>ex
 |_=>no
inductive Hk where
 |ret (c:ak)
 |pD (c f c' f' a x A0 b:ak)
noncomputable def NU (e:Expr):Bool:=eD e false (yo:=λk Z Z=>match k with|.none=>true|_=>false)
noncomputable def Ad (s:bO):Bool:=sD s false (v8:=λv Z=>match v with|none=>false|some e=>NU e)
noncomputable def Ek (e:Expr):Option (ak×ak):=eD e none (qh:=λo a Z=>(uM o).map λf=>(f,a))
noncomputable def Nl (e:Expr):Option (ak×ak×ak):=eD e none (we:=λl op r Z=>match op with|.Add=>(uM l).bind λx=>(Ek r).map λp=>(x,p)|_=>none)
noncomputable def EH:List Expr->Option (Expr×Expr)
 |[]=>none
 |a::r=>match r with
  |[]=>none
  |b::r=>match r with
   |[]=>some (a,b)
   |_::_=>none
noncomputable def Ni (e:Expr):Option (ak×(ak×ak)×(ak×ak×ak)):=eD e none (qC:=λf av kw Z=>match kw with
 |_::_=>none
 |[]=>(uM f).bind λc=>(EH av).bind λp=>(Ek p.1).bind λq=>(Nl p.2).map λr=>(c,q,r))
noncomputable def N8 (s:bO):Option (ak×(ak×ak)×(ak×ak×ak)):=sD s none (zf:=λe c Z=>match c with
 |some _=>none
 |none=>e.bind Ni)
noncomputable def wR {α:Type}:List α->Option α
 |[]=>none
 |a::r=>match r with
  |[]=>some a
  |_::_=>none
noncomputable def Zf (c:ak)(s:bO):Option ak->Option Hk
 |none=>(match Ad s with|true=>some (.ret c)|false=>none)
 |some f=>(N8 s).map λq=>.pD c f q.1 q.2.1.1 q.2.1.2 q.2.2.1 q.2.2.2.1 q.2.2.2.2
noncomputable def EP (hs:List ExceptHandler):Option Hk:=(wR hs).bind λ|.ExceptHandler t n b _=>(t.bind uM).bind λc=>(wR b).bind λs=>Zf c s n
noncomputable def zJ:Option V->Bool
 |none=>false
 |some v=>jV P v
noncomputable def isIn:Option V->Bool
 |none=>false
 |some v=>(lO v).isSome
noncomputable def um (k:lu):Option lu->Bool
 |none=>false
 |some q=>q==k
noncomputable def DC (U:Fm)(c:ak):Bool:=zJ P (P.glob c)&&um .globalImplicit (bI c U.sc)
noncomputable def zu (U:Fm)(c f c' f' a x A0 b:ak):Bool:=zJ P (P.glob c)&&zJ P (P.glob c')&&isIn (lk x U.loc)&&um .local (bI x U.sc)&&um .local (bI f U.sc)&&um .globalImplicit (bI c U.sc)&&um .globalImplicit (bI c' U.sc) &&
 (bg f f'&&bg f A0&&bg a "message" && bg b "place" && U.ro.any (bg x)&&!U.ro.any (bg f)&&!bg f "message" && !bg f "place")
noncomputable def r0 (U:Fm)(hs:List ExceptHandler):Mo (Fl×Fm):=match EP hs with
 |none=>no
 |some k=>match k with
  |.ret c=>(match DC P U c with
   |true=>rt (.ret .none,cW U)
   |false=>no)
  |.pD c f c' f' a x A0 b=>(match zu P U c f c' f' a x A0 b with
   |true=>ex
   |false=>no)
noncomputable def eV (U:Fm)(s:bO):Mo (Fl×Fm):=sD s no
 (Ed:=λx Z=>match iN x with
  |true=>no
  |false=>bd (sE self U x) λZ=>rt (.next,U))
 (Ea:=λZ=>rt (.next,U))
 (Dj:=λZ=>rt (.brk,U))
 (v8:=λx Z=>match x with
  |none=>no
  |some x=>bd (sE self U x) λv=>rt (.ret v,U))
 (vZ:=λts x Z=>match ts with
  |[t]=>(match iN x||oX t x with
   |true=>no
   |false=>bd (sE self U x) λv=>bd (fg P self U v t) λU=>rt (.next,U))
  |_=>no)
 (Av:=λt b o Z=>bd (sT self U t) λc=>(match c with
  |true=>sF self (.ss U b)
  |false=>sF self (.ss U o)))
 (zb:=λt b o Z=>match o with
  |[]=>sF self (.wh U t b)
  |_::_=>no)
 (kFor:=λt i b o Z=>match o with
  |[]=>(match gv i with
   |true=>no
   |false=>bd (sE self U i) λv=>bd (j7 v) λit=>sF self (.fo U t it b))
  |_::_=>no)
 (zf:=λx c Z=>match c with
  |some _=>no
  |none=>(match x with
   |none=>no
   |some x=>eD x no (qC:=λf av kw Z=>match kw with
    |_::_=>no
    |[]=>eD f no (nh:=λc p=>match noStar av with
     |false=>no
     |true=>bd (sE self U (.Name c p)) λcv=>(match jV P cv with
      |false=>no
      |true=>bd (eZ self U av) λvs=>ml vs)))))
 (zU:=λb hs o f Z=>match o with
  |[]=>(match f with
   |[]=>λσ=>match sF self (.ss U b) σ with
    |none=>none
    |some (.ok (fl,cg),aj)=>some (.ok (fl,cg),aj)
    |some (.exc,aj)=>r0 P U hs aj
   |_::_=>no)
  |_::_=>no)
noncomputable def fS (d:Nat)(f:V)(av:List V):Mo V:=match f with
 |.fn a=>(match Γ a with
  |some g=>g d av
  |none=>(match P.fn a,d with
   |some fi,d'+1=>bd (aX (jr fi.ps av fi.df)) λb =>
    bd (mU b (dS fi.scope)) λcs =>
    bd (sF self (.ss {sc:=fi.scope,loc:=b.filter (λp=>!mi (dS fi.scope) p.1),cz:=cs,d:=d',ro:=fi.ro} fi.body)) λr=>(match r.1 with
     |.next=>rt .none
     |.ret v=>rt v
     |.brk=>no)
   |_,_=>no))
 |.fj a i=>(match d with
  |d'+1=>sV self (.ca d' (.fn a) (.ref i::av))
  | 0=>no)
 |.cls C=>(match P.gf C,d with
  |some a,d'+1=>bd (al (.dict [])) λdx=>bd (al (.inst C dx)) λx=>bd (sV self (.ca d' (.fn a) (.ref x::av))) λr=>(match r with
   |.none=>rt (.ref x)
   |_=>no)
  |_,_=>no)
 |.bi b=>cw b av
 |.ref i=>(match d with
  |d'+1=>bd (gt (zk i)) λc=>bd (aX (jr P.told.ps av P.told.df)) λb =>
   bd (sF self (.ss {sc:=P.told.scope,loc:=b,cz:=[("doctypes",c.1),("table",c.2)],d:=d',ro:=[]} P.told.body)) λr=>(match r.1 with
    |.next=>rt .none
    |.ret v=>rt v
    |.brk=>no)
  | 0=>no)
 |_=>no
noncomputable def step:Jb->Mo An
 |.e U x=>bd (fH P Γ self U x) λv=>rt (.v v)
 |.es _ []=>rt (.vs [])
 |.es U (x::r)=>(match jX x with
  |true=>no
  |false=>bd (sE self U x) λv=>bd (eZ self U r) λl=>rt (.vs (v::l)))
 |.t U x=>bd (stepT self U x) λb=>rt (.b b)
 |.ts _ op []=>rt (.b (match op with|.And=>true|.Or=>false))
 |.ts U op (x::r)=>bd (sT self U x) λb=>(match op,b with
  |.And,false=>rt (.b false)
  |.Or,true=>rt (.b true)
  |_,_=>self (.ts U op r))
 |.bo _ _ []=>no
 |.bo U _ [x]=>bd (sE self U x) λv=>rt (.v v)
 |.bo U op (x::r)=>bd (sE self U x) λv=>bd (gt (truth v)) λb=>(match op,b with
  |.And,false=>rt (.v v)
  |.Or,true=>rt (.v v)
  |_,_=>self (.bo U op r))
 |.ch U v [op] [x]=>(match gv x with
  |true=>no
  |false=>bd (sE self U x) λr=>bd (fZ op v r) λb=>rt (.v (.bool b)))
 |.ch U v (op::bW) (x::xs)=>bd (sE self U x) λr=>bd (fZ op v r) λb=>(match b with
  |true=>self (.ch U r bW xs)
  |false=>rt (.v (.bool false)))
 |.ch _ _ _ _=>no
 |.s U x=>bd (eV P self U x) λr=>rt (.f r.1 r.2)
 |.ss U []=>rt (.f .next U)
 |.ss U (x::r)=>bd (sF self (.s U x)) λq=>(match q.1 with
  |.next=>self (.ss q.2 r)
  |fl=>rt (.f fl q.2))
 |.wh U t b=>bd (sT self U t) λc=>(match c with
  |false=>rt (.f .next U)
  |true=>bd (sF self (.ss U b)) λq=>(match q.1 with
   |.next=>self (.wh q.2 t b)
   |.brk=>rt (.f .next q.2)
   |.ret v=>rt (.f (.ret v) q.2)))
 |.fo U t it b=>bd (gt (fB it)) λo=>(match o with
  |none=>rt (.f .next U)
  |some (v,dQ)=>bd (fg P self U v t) λU=>bd (sF self (.ss U b)) λq=>(match q.1 with
   |.next=>self (.fo q.2 t dQ b)
   |.brk=>rt (.f .next q.2)
   |.ret v=>rt (.f (.ret v) q.2)))
 |.cp U elt t ifs it aA=>bd (gt (fB it)) λo=>(match o with
  |none=>rt (.v (.ref aA))
  |some (v,dQ)=>bd (fg P self U v t) λU=>bd (sB self (.ts U .And ifs)) λc=>(match c with
   |true=>bd (sE self U elt) λr=>bd (cw .append [.ref aA,r]) λZ=>self (.cp U elt t ifs dQ aA)
   |false=>self (.cp U elt t ifs dQ aA)))
 |.as U t v=>bd (fg P self U v t) λU=>rt (.f .next U)
 |.ca d f av=>bd (fS P Γ self d f av) λv=>rt (.v v)
end
noncomputable def run (P:PE)(Γ:ax->Option (Nat->List V->Mo V)):Nat->Jb->Mo An
 | 0,_=>no
 |n+1,j=>step P Γ (run P Γ n) j
theorem Dm:eV P sf U (.Try b hs [] [] p) σ=(match sF sf (.ss U b) σ with
 |none=>none
 |some (.ok (fl,cg),aj)=>some (.ok (fl,cg),aj)
 |some (.exc,aj)=>r0 P U hs aj):=rfl
noncomputable def sl (s:String):ak:=yx s
noncomputable def gy (n:String):List bO->Option (rY×List bO×fh)
 |[]=>none
 |s::r=>sD s (gy n r) (Bs:=λm a b Z Z Z sc Z Z Z=>match bg m (sl n) with
  |true=>some (a,b,sc)
  |false=>gy n r)
noncomputable def rW (n:String):List bO->List bO
 |[]=>[]
 |s::r=>sD s (rW n r) (Iu:=λm Z Z b Z Z Z Z Z Z Z=>match bg m (sl n) with
  |true=>b
  |false=>rW n r)
noncomputable def iJ:List bO:=OF.main.body
noncomputable def ja (o:Option (rY×List bO×fh))(df:List V)(qual:String)(cd:ax)(dV:az)(ro:List ak:=[]):Option FI:=match o with
 |some (a,b,sc)=>some ⟨a.args.map (·.arg),df,b,sc,sl qual,.ref cd,dV,ro⟩
 |none=>none
inductive Tr (α:Type) where
 |nil|node (k:Nat) (v:α) (l r:Tr α)
noncomputable def Tr.get {α:Type}:Tr α->Nat->Option α
 |.nil,_=>none
 |.node k v l r,i=>match bx i k with
  |true=>some v
  |false=>match cE i k with
   |true=>l.get i
   |false=>r.get i
noncomputable def qj:Option FI:=ja (gy "tag_end" iJ) [] "tag_end" 504 (.none)
noncomputable def rG:Option FI:=ja (gy "doctype_end" iJ) [] "doctype_end" 511 (.none)
noncomputable def oO:Option FI:=ja (gy "text_end" iJ) [] "text_end" 525 (.none)
noncomputable def qa:Option FI:=ja (gy "check_chars" iJ) [] "check_chars" 602 (.none)
noncomputable def xQ:Option FI:=ja (gy "joined_texts" iJ) [] "joined_texts" 719 (.none)
noncomputable def xW:Option FI:=ja (gy "told" (rW "Stream" iJ)) [] "Stream.told" 832 (.none)
noncomputable def OG:Option FI:=ja (gy "events_of" (rW "Stream" iJ)) [] "Stream.events_of" 839 (.none) [sl "place"]
noncomputable def xR:Option FI:=ja (gy "_law_document" iJ) [] "_law_document" 1066 (.none)
noncomputable def ya:Option FI:=ja (gy "_law_joined" iJ) [] "_law_joined" 1073 (.none)
noncomputable def qk:Option FI:=ja (gy "_law_cut" iJ) [] "_law_cut" 1078 (.none)
noncomputable def yt:Option FI:=ja (gy "_law_fed" iJ) [] "_law_fed" 1092 (.none)
noncomputable def pg:Option FI:=ja (gy "law" iJ) [] "law" 1097 (.none)
noncomputable def nD (k:Nat)(c n q:String)(df:List V)(dV:az)(l r:Tr (Option FI)):Tr (Option FI):=.node (k+1) (ja (gy n (rW c iJ)) df q k dV) l r
noncomputable def nE (k:Nat)(n:String)(df:List V)(dV:az)(l r:Tr (Option FI)):Tr (Option FI):=.node (k+1) (ja (gy n iJ) df n k dV) l r
noncomputable def nc (k:Nat)(c n q:String)(l r:Tr (Option FI)):Tr (Option FI):=nD k c n q [] .none l r
noncomputable def nf (k:Nat)(n:String)(l r:Tr (Option FI)):Tr (Option FI):=nE k n [] .none l r
noncomputable def K1:Tr (Option FI):=(nc 581 "Pieces" "take" "Pieces.take" (nc 338 "Growth" "__init__" "Growth.__init__" (nD 220 "Cursor" "take" "Cursor.take" [.int 1] (.ref 214) (nf 90 "is_nmtoken" (nf 69 "is_small_letter" (nf 55 "is_space" (nf 48 "is_in_ranges" .nil .nil) (nf 62 "is_char" .nil .nil)) (nf 83 "is_name_char" (nf 76 "is_name_start" .nil .nil) .nil)) (nc 190 "Cursor" "is_over" "Cursor.is_over" (nf 104 "plain_ends" (nf 97 "is_name" .nil .nil) (nD 183 "Cursor" "__init__" "Cursor.__init__" [.int 0] (.ref 177) .nil .nil)) (nc 205 "Cursor" "looks" "Cursor.looks" (nD 198 "Cursor" "peek" "Cursor.peek" [.int 1] (.ref 192) .nil .nil) .nil))) (nc 269 "Cursor" "name" "Cursor.name" (nc 248 "Cursor" "ahead_of" "Cursor.ahead_of" (nc 234 "Cursor" "expect" "Cursor.expect" (nc 227 "Cursor" "skip" "Cursor.skip" .nil .nil) (nc 241 "Cursor" "until" "Cursor.until" .nil .nil)) (nc 262 "Cursor" "need_spaces" "Cursor.need_spaces" (nc 255 "Cursor" "spaces" "Cursor.spaces" .nil .nil) .nil)) (nf 309 "code_of" (nf 297 "value_of_digits" (nc 276 "Cursor" "quoted" "Cursor.quoted" .nil .nil) (nf 304 "without_noughts" .nil .nil)) (nf 324 "predefined" (nE 317 "char_of" [.int 0] (.ref 311) .nil .nil) .nil)))) (nf 472 "sign_or_entity" (nc 401 "Pending" "run" "Pending.run" (nc 366 "Growth" "put_in" "Growth.put_in" (nc 352 "Growth" "enter" "Growth.enter" (nc 345 "Growth" "add" "Growth.add" .nil .nil) (nc 359 "Growth" "leave" "Growth.leave" .nil .nil)) (nc 394 "Pending" "is_over" "Pending.is_over" (nc 387 "Pending" "__init__" "Pending.__init__" .nil .nil) .nil)) (nc 443 "Stack" "put_in" "Stack.put_in" (nc 429 "Stack" "__init__" "Stack.__init__" (nc 408 "Pending" "reference" "Pending.reference" .nil .nil) (nc 436 "Stack" "top" "Stack.top" .nil .nil)) (nE 465 "text_in_value" [.none] (.ref 459) (nf 457 "growth_for" .nil .nil) .nil))) (.node 526 oO (.node 505 qj (nf 490 "may_become" (nf 479 "blank_spaces" .nil .nil) (nf 497 "behind" .nil .nil)) (nf 518 "markup_piece" (.node 512 rG .nil .nil) .nil)) (nc 560 "Pieces" "feed_plain" "Pieces.feed_plain" (nc 546 "Pieces" "__init__" "Pieces.__init__" (nf 532 "held_brackets" .nil .nil) (nc 553 "Pieces" "feed" "Pieces.feed" .nil .nil)) (nc 574 "Pieces" "cut" "Pieces.cut" (nc 567 "Pieces" "finish" "Pieces.finish" .nil .nil) .nil))))) (nc 825 "Stream" "close" "Stream.close" (nf 705 "read_inner" (nf 637 "read_comment" (nf 616 "read_equals" (.node 603 qa (nc 588 "Pieces" "take_text" "Pieces.take_text" .nil .nil) (nf 609 "read_start" .nil .nil)) (nf 630 "read_end" (nf 623 "read_attribute" .nil .nil) .nil)) (nf 672 "is_version" (nf 651 "read_cdata" (nf 644 "read_instruction" .nil .nil) (nf 658 "read_word_value" .nil .nil)) (nf 698 "read_outer_name" (nf 679 "read_declaration" .nil .nil) .nil))) (nc 761 "Content" "value" "Content.value" (nf 733 "is_declaration" (.node 720 xQ (nf 712 "read_doctype" .nil .nil) (nf 726 "check_signs" .nil .nil)) (nc 754 "Content" "read" "Content.read" (nc 747 "Content" "__init__" "Content.__init__" .nil .nil) .nil)) (nc 789 "Content" "entity_events" "Content.entity_events" (nc 775 "Content" "end" "Content.end" (nc 768 "Content" "start" "Content.start" .nil .nil) (nc 782 "Content" "reference" "Content.reference" .nil .nil)) (nc 818 "Stream" "feed" "Stream.feed" (nD 811 "Stream" "__init__" "Stream.__init__" [.none] (.ref 805) .nil .nil) .nil)))) (nc 996 "EntityTable" "text_of" "EntityTable.text_of" (nc 903 "Entity" "__init__" "Entity.__init__" (nc 853 "Stream" "space" "Stream.space" (.node 840 OG (.node 833 xW .nil .nil) (nc 846 "Stream" "outside" "Stream.outside" .nil .nil)) (nD 882 "Limits" "__init__" "Limits.__init__" [.int 20,.int 100000] (.ref 876) (nc 860 "Stream" "doctype" "Stream.doctype" .nil .nil) .nil)) (nD 953 "EntityTable" "__init__" "EntityTable.__init__" [.none] (.ref 947) (nc 917 "Entity" "is_unparsed" "Entity.is_unparsed" (nc 910 "Entity" "is_outer" "Entity.is_outer" .nil .nil) (nf 931 "plain_reference" .nil .nil)) (nc 968 "EntityTable" "entity" "EntityTable.entity" (nD 961 "EntityTable" "declare" "EntityTable.declare" [.none,.none] (.ref 955) .nil .nil) .nil))) (nf 1059 "_law_head" (nf 1038 "_law_take" (nc 1010 "EntityTable" "inner_replacement" "EntityTable.inner_replacement" (nc 1003 "EntityTable" "replacement" "EntityTable.replacement" .nil .nil) (nf 1031 "_law_pool" .nil .nil)) (nf 1052 "_law_part" (nf 1045 "_law_one" .nil .nil) .nil)) (.node 1079 qk (.node 1074 ya (.node 1067 xR .nil .nil) .nil) (.node 1098 pg (.node 1093 yt .nil .nil) .nil))))))
noncomputable def El (a:ax):Option FI:=match K1.get a with
 |some o=>o
 |none=>none
noncomputable def CK:List (List (ak×V)):=[
 [],
 [],
 [],
 [(sl "law",.fn 1098),(sl "len",.bi .len),(sl "ord",.bi .ord),(sl "chr",.bi .chr),(sl "max",.bi .max),(sl "int",.bi .int)],
 [],
 [(sl "CDATA",.str (sl "<![CDATA[")),(sl "AHEAD",.int 1),(sl "Stack",.cls 447),(sl "range",.bi .range),(sl "tuple",.bi .tuple)],
 [(sl "DIGITS",.str (sl "0123456789")),(sl "QUOTES",.str (sl "\"'")),(sl "WITHIN",.int 2),(sl "BEHIND",.int 3),(sl "behind",.fn 498),(sl "Cursor",.cls 287),(sl "Growth",.cls 370),(sl "Pieces",.cls 592),(sl "Stream",.cls 864),(sl "Limits",.cls 886),(sl "Entity",.cls 921),(sl "sorted",.bi .sorted)],
 [(sl "COMMENT",.str (sl "<!--")),(sl "DOCTYPE",.str (sl "<!DOCTYPE")),(sl "LETTERS",.str (sl "abcdefghijklmnopqrstuvwxyzABCDEFGHIJKLMNOPQRSTUVWXYZ")),(sl "FIGURES",.str (sl "0123456789")),(sl "NOTHING",.int 0),(sl "is_char",.fn 63),(sl "is_name",.fn 98),(sl "code_of",.fn 310),(sl "char_of",.fn 318),(sl "tag_end",.fn 505),(sl "Pending",.cls 412),(sl "Content",.cls 793)],
 [(sl "OPENINGS",.tup [.tup [.str (sl "<!--"),.str (sl "comment"),.str (sl "-->")],.tup [.str (sl "<![CDATA["),.str (sl "cdata"),.str (sl "]]>")],.tup [.str (sl "<!DOCTYPE"),.str (sl "doctype"),.none]]),(sl "is_space",.fn 56),(sl "text_end",.fn 526),(sl "read_end",.fn 631),(sl "_law_one",.fn 1046),(sl "_law_cut",.fn 1079),(sl "_law_fed",.fn 1093)],
 [(sl "TEXT_HEAD",.str (sl "<?xml")),(sl "_law_pool",.fn 1032),(sl "_law_take",.fn 1039),(sl "_law_part",.fn 1053),(sl "_law_head",.fn 1060)],
 [(sl "HEX_DIGITS",.str (sl "0123456789abcdef")),(sl "ORDER_MARK",.str (sl "\ufeff")),(sl "is_nmtoken",.fn 91),(sl "plain_ends",.fn 105),(sl "predefined",.fn 325),(sl "growth_for",.fn 458),(sl "may_become",.fn 491),(sl "read_start",.fn 610),(sl "read_cdata",.fn 652),(sl "is_version",.fn 673),(sl "read_inner",.fn 706)],
 [(sl "CHAR_RANGES",.tup [.tup [.int 32,.int 55295],.tup [.int 57344,.int 65533],.tup [.int 65536,.int 1114111]]),(sl "MORE_RANGES",.tup [.tup [.int 183,.int 183],.tup [.int 768,.int 879],.tup [.int 8255,.int 8256]]),(sl "MOST_DIGITS",.int 12),(sl "doctype_end",.fn 512),(sl "check_chars",.fn 603),(sl "read_equals",.fn 617),(sl "check_signs",.fn 727),(sl "_law_joined",.fn 1074),(sl "SyntaxFault",.cls 143),(sl "EntityTable",.cls 1021)],
 [(sl "SPACES_chars",.str (sl " \t\n\u000d")),(sl "START_RANGES",.tup [.tup [.int 192,.int 214],.tup [.int 216,.int 246],.tup [.int 248,.int 767],.tup [.int 880,.int 893],.tup [.int 895,.int 8191],.tup [.int 8204,.int 8205],.tup [.int 8304,.int 8591],.tup [.int 11264,.int 12271],.tup [.int 12289,.int 55295],.tup [.int 63744,.int 64975],.tup [.int 65008,.int 65533],.tup [.int 65536,.int 983039]]),(sl "FIRST_BEYOND",.int 128),(sl "VALUE_SPACES",.str (sl "\t\u000d\n")),(sl "is_in_ranges",.fn 49),(sl "is_name_char",.fn 84),(sl "blank_spaces",.fn 480),(sl "markup_piece",.fn 519),(sl "read_comment",.fn 638),(sl "read_doctype",.fn 713),(sl "joined_texts",.fn 720)],
 [(sl "is_name_start",.fn 77),(sl "text_in_value",.fn 466),(sl "held_brackets",.fn 533),(sl "_law_document",.fn 1067),(sl "_law_declared",.fn 1086)],
 [(sl "sign_or_entity",.fn 473),(sl "read_attribute",.fn 624),(sl "is_declaration",.fn 734)],
 [(sl "SPACES_entities",.str (sl " \t\u000d\n")),(sl "is_small_letter",.fn 70),(sl "value_of_digits",.fn 298),(sl "without_noughts",.fn 305),(sl "read_word_value",.fn 659),(sl "read_outer_name",.fn 699),(sl "plain_reference",.fn 932)],
 [(sl "read_instruction",.fn 645),(sl "read_declaration",.fn 680)]]
noncomputable def De (x:ak):Option V:=match ay CK x.cps.toList.length with
 |some l=>lk x l
 |none=>none
noncomputable def CI:Tr (List (ak×Option ax)):=(.node 793 [(sl "read",some 755),(sl "value",some 762),(sl "start",some 769),(sl "end",some 776),(sl "reference",some 783),(sl "entity_events",some 790),(sl "entities",none),(sl "growth",none),(sl "names",none)] (.node 412 [(sl "is_over",some 395),(sl "run",some 402),(sl "reference",some 409),(sl "text",none),(sl "name",none),(sl "at",none)] (.node 370 [(sl "add",some 346),(sl "enter",some 353),(sl "leave",some 360),(sl "put_in",some 367),(sl "limits",none),(sl "size",none),(sl "open",none)] (.node 287 [(sl "is_over",some 191),(sl "peek",some 199),(sl "looks",some 206),(sl "fault",some 213),(sl "take",some 221),(sl "skip",some 228),(sl "expect",some 235),(sl "until",some 242),(sl "ahead_of",some 249),(sl "spaces",some 256),(sl "need_spaces",some 263),(sl "name",some 270),(sl "quoted",some 277),(sl "line_of",some 284),(sl "text",none),(sl "at",none)] .nil .nil) .nil) (.node 592 [(sl "feed",some 554),(sl "feed_plain",some 561),(sl "finish",some 568),(sl "cut",some 575),(sl "take",some 582),(sl "take_text",some 589),(sl "text",none),(sl "place",none),(sl "held",none)] (.node 447 [(sl "top",some 437),(sl "put_in",some 444),(sl "growth",none),(sl "rows",none)] .nil .nil) .nil)) (.node 921 [(sl "is_outer",some 911),(sl "is_unparsed",some 918),(sl "name",none),(sl "value",none),(sl "system",none),(sl "notation",none)] (.node 886 [(sl "most_depth",none),(sl "most_size",none)] (.node 864 [(sl "feed",some 819),(sl "close",some 826),(sl "told",some 833),(sl "events_of",some 840),(sl "outside",some 847),(sl "space",some 854),(sl "doctype",some 861),(sl "content",none),(sl "on_doctype",none),(sl "pieces",none),(sl "stage",none),(sl "has_doctype",none)] .nil .nil) .nil) (.node 1021 [(sl "declare",some 962),(sl "entity",some 969),(sl "is_declared",some 976),(sl "is_unparsed",some 983),(sl "outer_text",some 990),(sl "text_of",some 997),(sl "replacement",some 1004),(sl "inner_replacement",some 1011),(sl "parameter",some 1018),(sl "limits",none),(sl "outer",none),(sl "general",none),(sl "parameters",none)] .nil .nil)))
noncomputable def D6 (C:ax)(x:ak):Option (Option ax):=match CI.get C with
 |some l=>lk x l
 |none=>none
noncomputable def yX:Tr ax:=(.node 793 748 (.node 412 388 (.node 370 339 (.node 287 184 .nil .nil) .nil) (.node 592 547 (.node 447 430 .nil .nil) .nil)) (.node 921 904 (.node 886 883 (.node 864 812 .nil .nil) .nil) (.node 1021 954 .nil .nil)))
noncomputable def dC (o:Option FI):FI:=match o with
 |some fi=>fi
 |none=>⟨[],[],[],⟨.function,[],false,false,[]⟩,sl "",.none,.none,[]⟩
noncomputable def nj:FI:=dC (ja (gy "__init__" (rW "SyntaxFault" iJ)) [.int 0] "SyntaxFault.__init__" 139 (.ref 133))
noncomputable def mu:FI:=dC (ja (gy "__init__" (rW "MarkupError" iJ)) [] "MarkupError.__init__" 118 (.none))
noncomputable def UE:Option FI:=ja (match gy "_law_declared" iJ with
 |some (_,b,_)=>gy "told" b
 |none=>none) [] "_law_declared.<locals>.told" 0 (.none)
noncomputable def cH:FI:=match UE with
 |some fi=>fi
 |none=>⟨[],[],[],⟨.function,[],false,false,[]⟩,sl "",.none,.none,[]⟩
noncomputable def Dw (n:String):List bO->aZ
 |[]=>⟨0,0,0,0⟩
 |s::r=>sD s (Dw n r) (Bs:=λm Z Z Z Z Z Z Z Z p=>match bg m (sl n) with
  |true=>p
  |false=>Dw n r)
noncomputable def CW:aZ:=match gy "_law_declared" iJ with
 |some (_,b,_)=>Dw "told" b
 |none=>⟨0,0,0,0⟩
noncomputable def aR:PE:=⟨De,El,D6,yX.get,143,cH⟩
noncomputable def Ky:Nat->List V->Mo V
 |_+1,[t,l]=>bd (al (.cell (some t))) λb=>bd (al (.cell (some l))) λa=>bd (al (.told a b)) λk=>rt (.ref k)
 |_,_=>no
noncomputable def cG:ax->Option (Nat->List V->Mo V):=λa=>match bx a 1086 with
 |true=>some Ky
 |false=>none
end Zq
namespace Zq
@[elab_as_elim] theorem AV {α:Type _}{a b:α}{motive:α->Prop}(h:Rs.ok a=Rs.ok b)(k:motive b):motive a:=by cases h;exact k
@[elab_as_elim] theorem dI {α:Type _}{a b:α}{motive:α->Prop}(h:Rs.ok a=Rs.ok b)(k:motive a):motive b:=by cases h;exact k
theorem NA {α:Type _}{a b:α}{G:Prop}(h:Rs.ok a=Rs.ok b)(k:G):G:=k
@[elab_as_elim] theorem UX {α β:Type _}{a b:α}{c d:β}{motive:α->β->Prop}(h:some (Rs.ok a,c)=some (Rs.ok b,d))(k:motive a d):motive b c:=by cases h;exact k
@[elab_as_elim] theorem ir {α:Type _}{a b:α}{motive:α->Prop}(h:a=b)(k:motive a):motive b:=h▸k
@[elab_as_elim] theorem il {α:Type _}{a b:α}{motive:α->Prop}(h:a=b)(k:motive b):motive a:=h▸k
open PySem PySem.W PySem.Calls PyProof.Rows
noncomputable def AY:ax:=1099
noncomputable def N0:ax:=1100
noncomputable def TT:ax:=1081
noncomputable def CF:ax:=143
noncomputable def uC:Bi->az
 |.len=>.builtin "len" |.ord=>.builtin "ord" |.chr=>.builtin "chr" |.max=>.builtin "max" |.int=>.type "int"
 |.sorted=>.builtin "sorted" |.range=>.type "range" |.tuple=>.type "tuple"
 |.find=>.builtin "str.find" |.startswith=>.builtin "str.startswith" |.endswith=>.builtin "str.endswith" |.split=>.builtin "str.split"
 |.join=>.builtin "str.join" |.replace=>.builtin "str.replace" |.lower=>.builtin "str.lower"
 |.append=>.builtin "list.append" |.pop=>.builtin "list.pop"
noncomputable def qr (p:rY):Bool:=p.posonlyargs.isEmpty&&p.kwonlyargs.isEmpty&&p.vararg.isNone&&p.kwarg.isNone
noncomputable def dE (o:cI):Prop:=(o.cls=.type "tuple"/\∃ys k,o.data=.seq ys k)\/((o.cls=.type "method"\/o.cls=.type "range"\/o.cls=.type "code")/\∃vs,o.data=.fields vs)
mutual
noncomputable def VR (h:bf)(ρ:Nat->ax)(n:Nat):V->az->Prop
 |.none,x=>x=.none
 |.bool b,x=>x=.bool b
 |.int i,x=>∃t,x=.int i t
 |.str s,x=>∃t,x=.str s t
 |.ref i,x=>i<n/\x=.ref (ρ i)
 |.fn a,x=>x=.ref a
 |.cls C,x=>x=.ref C
 |.bi b,x=>x=uC b
 |.tup l,x=>∃a ys k,x=.ref a/\h.get? a=some {cls:=.type "tuple",data:=.seq ys k}/\aW h ρ n l ys.toList
 |.fj f i,x=>∃a,x=.ref a/\i<n/\h.get? a=some (methodObj (.ref f) (.ref (ρ i)))
 |.cm k,x=>∃a t u v,x=.ref a/\IsRange h a 0 k 1 t u v
 |.gG l,x=>x=.ref AY/\∃ys k,h.get? AY=some {cls:=.type "list",data:=.seq ys k}/\IntsAre ys.toList l
noncomputable def aW (h:bf)(ρ:Nat->ax)(n:Nat):List V->List az->Prop
 |[],ys=>ys=[]
 |v::l,ys=>∃y r,ys=y::r/\VR h ρ n v y/\aW h ρ n l r
end
structure Kp (h:bf)(ρ:Nat->ax)(n:Nat)(h':bf)(aJ:Nat->ax)(n':Nat):Prop where
 le:n<=n'
 ext:∀i,i<n->aJ i=ρ i
 kf:∀b o,h.get? b=some o->dE o->h'.get? b=some o
 NX:∀ys k,h.get? AY=some {cls:=.type "list",data:=.seq ys k}->h'.get? AY=some {cls:=.type "list",data:=.seq ys k}
mutual
theorem VR.kp {h h':bf}{ρ aJ:Nat->ax}{n n':Nat}(k:Kp h ρ n h' aJ n'):∀{v:V} {x:az},VR h ρ n v x->VR h' aJ n' v x
 |.none,_,e=>e
 |.bool _,_,e=>e
 |.int _,_,e=>e
 |.str _,_,e=>e
 |.ref i,_,e=>by
  dsimp only[VR]at e ⊢;exact⟨fK e.1 k.le,by rw[k.ext i e.1];exact e.2⟩
 |.fn _,_,e=>e
 |.cls _,_,e=>e
 |.bi _,_,e=>e
 |.tup l,_,e=>by
  dsimp only[VR]at e ⊢;refine dG e ?_;clear e;rintro a ys c e1 e2 e3;exact⟨a,ys,c,e1,k.kf _ _ e2 (.inl (Eh rfl _ _ rfl)),aW.kp k e3⟩
 |.fj f i,_,e=>by
  dsimp only[VR]at e ⊢;refine cy e ?_;clear e;rintro a e1 e2 e3;exact⟨a,e1,fK e2 k.le,by rw[k.ext i e2];exact k.kf _ _ e3 (.inr (qY (.inl rfl) _ rfl))⟩
 |.cm c,_,e=>by
  dsimp only[VR]at e ⊢;refine ub e ?_;clear e;rintro a t u v e1 e2;exact⟨a,t,u,v,e1,k.kf _ _ e2 (.inr (qY (.inr (.inl rfl)) _ rfl))⟩
 |.gG l,_,e=>by
  dsimp only[VR]at e ⊢;refine iq e ?_;clear e;rintro e0 ys c e1 e2;exact⟨e0,ys,c,k.NX _ _ e1,e2⟩
theorem aW.kp {h h':bf}{ρ aJ:Nat->ax}{n n':Nat}(k:Kp h ρ n h' aJ n'):∀{l:List V} {ys:List az},aW h ρ n l ys->aW h' aJ n' l ys
 |[],_,e=>e
 |v::l,_,e=>by
  dsimp only[aW]at e ⊢;refine cj e ?_;clear e;rintro y r e1 e2 e3;exact(ey y r e1 (VR.kp k e2) (aW.kp k e3))
end
noncomputable def i6 (e:oR):ak:=match e.key with
 |.str x _=>x
 |_=>⟨#[]⟩
structure ki (P:bA)(h:bf)(ρ:Nat->ax)(n:Nat)(l:List (ak×V))(es:List oR):Prop where
 k:∀e,e∈es->∃x t,e.key=.str x t/\e.hash=gm P x
 s:∀x v,lk x l=some v->∃e,es.find? (·.key.isStr x)=some e/\VR h ρ n v e.val
 z:∀x,lk x l=none->es.find? (·.key.isStr x)=none
 len:es.length<=l.length
 nd:(es.map i6).Nodup
theorem ki.kp (k:Kp h ρ n h' aJ n')(e:ki P h ρ n l es):ki P h' aJ n' l es :=
 ⟨e.k,λx v q=>let ⟨e,a,b⟩:=e.s x v q;(aP e a (b.kp k)),e.z,e.len,e.nd⟩
structure T8 (h:bf)(fd:FuncData)(c1 c2:ax):Prop where
 sc:fd.scope=cH.scope
 bo:fd.body=.stmts cH.body
 cl:∀x,fd.closure.lookup x=if x="doctypes" then some c1 else if x="table" then some c2 else none
 gl:fd.globals=mainGlobals
 bu:fd.builtins=builtinsNs
 pl:qr fd.params=true
 ps:fd.params.args.map (·.arg)=cH.ps
 df:fd.defaults=.none
 cd:∃c oc vs t,fd.code=.ref c/\h.get? c=some oc/\oc.cls=.type "code"/\oc.data=.fields vs/\vs[1]?=some (.str fd.qualname t)
noncomputable def Vd (h:bf)(a c1 c2:ax):Prop:=∃o fd,h.get? a=some o/\o.cls=.type "function"/\o.data=.func fd/\T8 h fd c1 c2
noncomputable def OR (P:bA)(h:bf)(ρ:Nat->ax)(n:Nat)(a:ax):O->Prop
 |.inst C d=>d<n/\h.get? a=some (instObj C (ρ d))
 |.dict l=>∃es k,h.get? a=some (dictOf es k)/\ki P h ρ n l es
 |.list l=>∃ys k,h.get? a=some {cls:=.type "list",data:=.seq ys k}/\aW h ρ n l ys.toList
 |.cell v=>∃x,(∃o,h.get? a=some o/\o.data=.cell x)/\(match v,x with
  |none,none=>True
  |some v,some x=>VR h ρ n v x
  |_,_=>False)
 |.told ct cl=>ct<n/\cl<n/\Vd h a (ρ ct) (ρ cl)
structure HR (P:bA)(h:bf)(ρ:Nat->ax)(σ:Sg):Prop where
 ob:∀i o,ay σ i=some o->OR P h ρ σ.length (ρ i) o
 inj:∀i j,i<σ.length->j<σ.length->ρ i=ρ j->i=j
 hi:∀i,i<σ.length->N0<=ρ i
structure Xh (h:bf)(bm:ax):Prop where
 statics:∃mc,h.Ns cStatics mc/\mc "sys.audit-hooks"=none/\mc "sys.dict"=none
 mods:∃mm,h.Ns sysModules mm/\mm "_pylong"=none
 imp:∃mb,h.Ns builtinsNs mb/\∀x:ak,x≠"__name__"->mb x=bootBuiltins x
 main:∃mg ob,h.Ns mainGlobals mg/\mg "__builtins__"=some (.ref bm)/\h.get? bm=some ob/\ob.cls=.type "module"/\ob.dict=some builtinsNs/\ob.data=.plain
noncomputable def uo (h:bf)(vs:Array az):Prop:=vs=#[]\/∃c o xs t,vs=#[rawInt CW.line,rawInt CW.col,.ref c]/\h.get? c=some o/\o.cls=.type "code"/\o.data=.fields xs/\xs[1]?=some (.str cH.qual t)
theorem uo.keep (t:uo h vs)(im:∀b o,h.get? b=some o->dE o->h'.get? b=some o):uo h' vs :=
 t.imp id λ⟨c,o,xs,t,a1,a2,a3,a4,a5⟩=>⟨c,o,xs,t,a1,im _ _ a2 (.inr (qY (.inr (.inr a3)) xs a4)),a3,a4,a5⟩
structure jc (K:bz)(h:bf):Prop where
 k:K.In h
 ns:∃mg mb,h.Ns mainGlobals mg/\h.Ns builtinsNs mb/\(∀x:ak,x≠("__name__":ak)->mb x=bootBuiltins x)
 lim:h.NoLimit
 Of:h.NoDigits
 tab:∃vs,h.get? TT=some {cls:=.none,data:=.fields vs}/\uo h vs
 kb:∀a o,K.lookup a=some o->a<N0/\a≠TT
 seer:∃bm,bm<N0/\bm≠TT/\bm≠builtinsNs/\Xh h bm
theorem jc.noSeer {K:bz}(b:jc K h):h.NoSeer :=
 let ⟨bm,_,_,_,s⟩:=b.seer
 ⟨s.statics,s.mods,s.imp,let ⟨mg,ob,r1,r2,r3,r4,r5,_⟩:=s.main;⟨mg,bm,ob,r1,r2,r3,r4,r5⟩⟩
structure FO (ah:a9):Prop where
 k:ah.scope.kind≠.module
 gen:ah.scope.isGenerator=false
 co:ah.scope.isCoroutine=false
 b:ah.builtins=builtinsNs
 g:ah.globals=mainGlobals
noncomputable def aI (fs:List a9):List ax:=fs.filterMap (·.frame)
structure nB (h:bf)(ρ:Nat->ax)(n:Nat)(fs:List a9):Prop where
 ff:∀ah∈fs,FO ah/\∃L o,ah.frame=some L/\N0<=L/\(∀i,i<n->ρ i≠L)/\h.get? L=some o/\(∃es k,o.data=.dict es k)
 nd:(aI fs).Nodup
structure W (P:bA)(K:bz)(fs:List a9)(ρ:Nat->ax)(σ:Sg)(h:bf):Prop where
 hr:HR P h ρ σ
 ba:jc K h
 fr:nB h ρ σ.length fs
theorem get_none {h:bf}(e:h.objs.size<=a):h.get? a=none:=by
 induction q:h.get? a with
 |none=>rfl
 |some o=>exact absurd (jD q) (d8.mpr e)
structure bL (X F:List ax)(ρ:Nat->ax)(n:Nat)(h:bf)(aJ:Nat->ax)(n':Nat)(h':bf):Prop where
 le:n<=n'
 ext:∀i,i<n->aJ i=ρ i
 new:∀i,n<=i->i<n'->h.get? (aJ i)=none
 live:∀c o,h.get? c=some o->∃o',h'.get? c=some o'
 keep:∀b o,h.get? b=some o->(∀i,i<n->b≠ρ i)->b∉X->b∉F->b≠TT->h'.get? b=some o
 slot:∀b o,b∈F->b∉X->h.get? b=some o->∃sl,h'.get? b=some {o with slots:=sl}
theorem bL.nu (a:bL X F ρ n h aJ n' h')(e:h'.get? c=none):h.get? c=none:=by
 induction q:h.get? c with
 |none=>rfl
 |some o=>refine oE (a.live c o q) ?_;rintro o' z;rw[e]at z;exact nS z
theorem bL.refl (X F:List ax)(ρ:Nat->ax)(n:Nat)(h:bf):bL X F ρ n h ρ n h :=
 ⟨bc _,λZ Z=>rfl,λZ a b=>absurd b (d8.mpr a),λZ o e=>⟨o,e⟩,λZ o e Z Z Z Z=>e,λZ o Z Z e=>⟨o.slots,e⟩⟩
theorem bL.trans (a:bL X F ρ n h Wn n₁ bU)(b:bL X F Wn n₁ bU Wk XC dN):bL X F ρ n h Wk XC dN:=by
 refine⟨bC a.le b.le,λi hi=>(b.ext i (fK hi a.le)).trans (a.ext i hi),λi h1 h2=>?_,λc o e=>?_,λc o e h1 h2 h3 h4=>?_,λc o h1 h2 e=>?_⟩
 ·by_cases q:i<n₁
  ·rw[b.ext i q];exact a.new i h1 q
  ·exact a.nu (b.new i (eN q) h2)
 ·refine oE (a.live c o e) ?_;rintro o' e';exact b.live c o' e'
 ·refine b.keep c o (a.keep c o e h1 h2 h3 h4) (λi hi=>?_) h2 h3 h4;by_cases q:i<n
  ·rw[a.ext i q];exact h1 i q
  ·intro z;obtain af:= a.new i (eN q) hi;rw[<- z,e]at af;exact sN af
 ·refine oE (a.slot c o h1 h2 e) ?_;rintro sl e1;refine oE (b.slot c _ h1 h2 e1) ?_;rintro nM e2;exact⟨nM,e2⟩
theorem bL.sub (a:bL X F ρ n h aJ n' h')(hx:∀b,b∈X->b∈X')(hf:∀b,b∈F->b∈F'\/b∈X')(hf':∀b,b∈F'->b∈F\/b∈X'):bL X' F' ρ n h aJ n' h':=by
 refine⟨a.le,a.ext,a.new,a.live,λc o e h1 h2 h3 h4=>a.keep c o e h1 (λq=>h2 (hx _ q)) (λq=>(hf _ q).elim h3 h2) h4,λc o h1 h2 e=>?_⟩;exact a.slot c o ((hf' c h1).resolve_right h2) (λq=>h2 (hx _ q)) e
theorem bL.fresh (a:bL X F ρ n h aJ n' h')(hx:∀b,b∈X->h.get? b=none):bL [] F ρ n h aJ n' h':=by
 have q:∀c o,h.get? c=some o->c∉X:=λc o e m=>by rw[hx c m]at e;exact nS e
 exact⟨a.le,a.ext,a.new,a.live,λc o e h1 Z h3 h4=>a.keep c o e h1 (q c o e) h3 h4,λc o h1 Z e=>a.slot c o h1 (q c o e) e⟩
theorem bL.grow (k:∀b o,h.get? b=some o->h'.get? b=some o):bL X F ρ n h ρ n h' :=
 ⟨bc _,λZ Z=>rfl,λZ a b=>absurd b (d8.mpr a),λZ o e=>⟨o,k _ _ e⟩,λb o e Z Z Z Z=>k b o e,λZ o Z Z e=>⟨o.slots,k _ _ e⟩⟩
theorem IT (k:kx a h h')(l:∃o,h'.get? a=some o):∀c o,h.get? c=some o->∃o',h'.get? c=some o':=λc o e=>by
 by_cases z:c=a
 ·clear k;subst z;exact l
 ·exact⟨o,(k.2 c z).trans e⟩
theorem bL.own (hi:i<n)(k:kx (ρ i) h h')(l:∃o,h'.get? (ρ i)=some o)(hF:ρ i∉F\/ρ i∈X):bL X F ρ n h ρ n h' :=
 ⟨bc _,λZ Z=>rfl,λZ a b=>absurd b (d8.mpr a),IT k l,λb o e h1 Z Z Z=>(k.2 b (h1 i hi)).trans e,
  λb o m m' e=>⟨o.slots,(k.2 b λz=>hF.elim (λq=>q (z▸m)) λq=>m' (z▸q)).trans e⟩⟩
theorem bL.at (k:kx a h h')(l:∃o,h'.get? a=some o)(hX:a∈X):bL X F ρ n h ρ n h' :=
 ⟨bc _,λZ Z=>rfl,λZ a b=>absurd b (d8.mpr a),IT k l,λb o e Z h2 Z Z=>(k.2 b λz=>h2 (z▸hX)).trans e,
  λb o Z m' e=>⟨o.slots,(k.2 b λz=>m' (z▸hX)).trans e⟩⟩
noncomputable def up (ρ:Nat->ax)(n:Nat)(a:ax):Nat->ax:=λi=>if i=n then a else ρ i
theorem fV (h:i<n):up ρ n a i=ρ i:=if_neg (iE h)
theorem fX:up ρ n a n=a:=if_pos rfl
theorem bL.one (k:∀b o,h.get? b=some o->h'.get? b=some o)(ha:h.get? a=none):bL X F ρ n h (up ρ n a) (n+1) h' :=
 ⟨iF _,λi hi=>fV hi,λi h1 h2=>by
  obtain af: i=n:=by exact xK h1 h2
  clear h1 h2;subst af;rw[fX];exact ha,λZ o e=>⟨o,k _ _ e⟩,λb o e Z Z Z Z=>k b o e,λZ o Z Z e=>⟨o.slots,k _ _ e⟩⟩
theorem bK:∀{l} {i} {a:α},ay l i=some a->i<l.length
 |[],_,_,e=>by exact nS e
 |_::_,0,_,_=>Nat.zero_lt_succ _
 |_::l,i+1,_,e=>Nat.succ_lt_succ (bK (l:=l) e)
theorem Kd:∀{l} {b} {i} {a:α},ay (l++[b]) i=some a->ay l i=some a\/(i=l.length/\a=b)
 |[],b,0,a,e=>by(refine aT e ?_;clear e a);exact .inr ⟨rfl,rfl⟩
 |[],b,i+1,a,e=>by exact nS e
 |c::l,b,0,a,e=>.inl e
 |c::l,b,i+1,a,e=>(Kd (l:=l) (b:=b) (i:=i) e).imp id λ⟨x,y⟩=>⟨by rw[x];rfl,y⟩
theorem J9:∀{l} {j} {b} {i} {a:α},ay (bG l j b) i=some a->(i=j/\a=b)\/(i≠j/\ay l i=some a)
 |[],_,_,_,_,e=>by exact nS e
 |c::l,0,b,0,a,e=>by(refine aT e ?_;clear e a);exact .inl ⟨rfl,rfl⟩
 |c::l,0,b,i+1,a,e=>.inr ⟨by exact i5 (Nat.zero_ne_add_one i),e⟩
 |c::l,j+1,b,0,a,e=>.inr ⟨by exact Nat.zero_ne_add_one j,e⟩
 |c::l,j+1,b,i+1,a,e=>(J9 (l:=l) (j:=j) (b:=b) (i:=i) e).imp (λ⟨x,y⟩=>⟨by rw[x],y⟩) λ⟨x,y⟩=>⟨by exact Nat.add_one_ne_add_one_iff.mpr x,y⟩
theorem kz:∀(l:List α) (j:Nat) (b:α),(bG l j b).length=l.length
 |[],_,_=>rfl
 |_::_,0,_=>rfl
 |_::l,j+1,b=>congrArg (·+1) (kz l j b)
section
variable {P:bA}{K:bz}{fs:List a9}{ρ:Nat->ax}{σ:Sg}{h:bf}
theorem W.y9 (w:W P K fs ρ σ h)(hi:i<σ.length)(e:h.get? (ρ i)=some o):¬dE o:=by
 obtain hn: ∃x,ay σ i=some x:=by
  clear e w;induction σ generalizing i with
  |nil=>cases hi
  |cons a l ih=>induction i using eO with
   |zero=>exact⟨a,rfl⟩
   |succ i=>exact ih (ry hi)
 refine oE hn ?_;rintro x hx;obtain q:= w.hr.ob i x hx;unfold dE;clear hx;induction x with
 |inst C d=>refine oA q ?_;rintro _ e';rw[e]at e';(refine dP e' ?_);simp
 |dict l=>refine dc q ?_;rintro _ _ e' _;rw[e]at e';(clear e;refine dP e' ?_);simp
 |list l=>refine dc q ?_;rintro _ _ e' _;rw[e]at e';(refine dP e' ?_);simp
 |cell l=>refine aO q ?_;rintro _ ⟨o',e',d⟩ _;rw[e]at e';(revert d;refine aT e' ?_;intro d);simp[d]
 |told a b=>refine Kb q ?_;rintro _ _ o' fd e' c _;rw[e]at e';(revert c a_3;refine aT e' ?_;intro c a_3);simp[c]
theorem W.kp (w:W P K fs ρ σ h)(a:bL X F ρ σ.length h aJ n' h')(hx:∀b,b∈X->b∈aI fs)(hf:∀b,b∈F->b∈aI fs):Kp h ρ σ.length h' aJ n':=by
 obtain ge:∀b,b∈aI fs->N0<=b:=λb m=>by
  refine aO (jQ.mp m) ?_;rintro ah he hl;refine Uc (w.fr.ff ah he) ?_;rintro _ L o' h1 h2 _;rw[h1]at hl;(revert h1 h2 a_2;refine dP hl ?_;intro h1 h2 a_2);exact h2
 refine⟨a.le,a.ext,λb o e im=>?_,λZ Z e=>a.keep _ _ e (λi hi z=>absurd (z▸w.hr.hi i hi) (by decide)) (λq=>absurd (ge _ (hx _ q)) (by decide)) (λq=>absurd (ge _ (hf _ q)) (by decide)) (by decide)⟩;obtain nf:b∉aI fs:=λm=>by
  refine aO (jQ.mp m) ?_;rintro ah he hl;refine kB (w.fr.ff ah he) ?_;rintro _ L o' h1 h2 h3 h4 h6;obtain af: L=b:=by rw[h1]at hl;exact jR hl
  clear hl m;subst af;rw[e]at h4;(revert h6;refine aT h4 ?_;intro h6);refine fE h6 ?_;rintro es k hd;unfold dE at im;rw[hd]at im;simp at im
 refine a.keep b o e (λi hi z=>?_) (λq=>nf (hx _ q)) (λq=>nf (hf _ q)) λz=>?_
 ·clear nf;subst z;exact w.y9 hi e im
 ·clear nf;subst z;refine aO w.ba.tab ?_;rintro vs q _;rw[e]at q;(revert im e;refine dP q ?_;intro im e);unfold dE at im;simp at im
theorem jc.Ls {h':bf}(b:jc K h)(k:∀a o,a<N0->a≠TT->h.get? a=some o->h'.get? a=some o)(t:∃vs,h'.get? TT=some {cls:=.none,data:=.fields vs}/\uo h' vs):jc K h':=by
 obtain⟨k1,⟨mg,mb,a1,a2,a3⟩,lim,Of,tab,kb,bm,F9,AP,GZ,sr⟩:=b;have kn:∀{a:ax} {m:ak->Option az},a<N0->a≠TT->h.Ns a m->h'.Ns a m:=λi1 i2 ⟨o,es,ep,e,r⟩=>(eJ o es ep (k _ _ i1 i2 e) r);refine⟨λa o e=>k a o (kb a o e).1 (kb a o e).2 (k1 a o e),(ey mg mb ?_ ?_ a3),?_,?_,t,kb,bm,F9,AP,GZ,?_⟩
 ·refine jI a1 ?_;rintro o es ep e r;exact(eJ o es ep (k _ _ (by decide) (by decide) e) r)
 ·refine jI a2 ?_;rintro o es ep e r;exact(eJ o es ep (k _ _ (by decide) (by decide) e) r)
 ·refine aO lim ?_;rintro mc ⟨o,es,ep,e,r⟩ q;exact⟨mc,(eJ o es ep (k _ _ (by decide) (by decide) e) r),q⟩
 ·refine aO Of ?_;rintro mc ⟨o,es,ep,e,r⟩ q;exact⟨mc,(eJ o es ep (k _ _ (by decide) (by decide) e) r),q⟩
 ·exact⟨let ⟨mc,x,y⟩:=sr.statics;(aP mc (kn (by decide) (by decide) x) y),let ⟨mc,x,y⟩:=sr.mods;(aP mc (kn (by decide) (by decide) x) y),let ⟨mc,x,y⟩:=sr.imp;(aP mc (kn (by decide) (by decide) x) y),
   let ⟨mc,ob,x,y,z,r⟩:=sr.main;(dp mc ob (kn (by decide) (by decide) x) y (k _ _ F9 AP z) r)⟩
theorem jc.keep (b:jc K h)(k:∀a o,a<N0->a≠TT->h.get? a=some o->h'.get? a=some o)(kt:∀o,h.get? TT=some o->h'.get? TT=some o)(im:∀b o,h.get? b=some o->dE o->h'.get? b=some o):jc K h' :=
 b.Ls k (b.tab.imp λvs e=>⟨kt _ e.1,e.2.keep im⟩)
theorem OR.kp (k:Kp h ρ n h' aJ n')(e:∀x,h.get? a=some x->h'.get? a=some x)(q:OR P h ρ n a o):OR P h' aJ n' a o:=by
 induction o with
 |inst C d=>exact⟨fK q.1 k.le,by rw[k.ext d q.1];exact e _ q.2⟩
 |dict l=>refine dc q ?_;rintro es c e1 e2;exact(cF es c (e _ e1) (e2.kp k))
 |list l=>refine dc q ?_;rintro es c e1 e2;exact(cF es c (e _ e1) (e2.kp k))
 |cell v =>
  refine aO q ?_;clear q;rintro x ⟨o',e1,d⟩ e2;refine⟨x,(aP o' (e _ e1) d),?_⟩;induction v<;>induction x<;>first|exact e2|exact e2.kp k
 |told ct cl =>
  refine yI q ?_;rintro q1 q2 o fd e1 e2 e3 e4;refine⟨fK q1 k.le,fK q2 k.le,(dp o fd (e _ e1) e2 e3 ?_)⟩;refine jU e4.cd ?_;rintro c oc vs t c1 c2 c3 c4 c5;exact⟨e4.sc,e4.bo,by rw[k.ext ct q1,k.ext cl q2];exact e4.cl,e4.gl,e4.bu,e4.pl,e4.ps,e4.df,c,oc,vs,t,c1,k.kf _ _ c2 (.inr (qY (.inr (.inr c3)) _ c4)),c3,c4,c5⟩
theorem nB.keep (f:nB h ρ n fs)(k:∀a o,a∈aI fs->h.get? a=some o->∃o',h'.get? a=some o'/\(∃es k,o'.data=.dict es k))(r:∀a,a∈aI fs->∀i,i<n'->aJ i≠a):nB h' aJ n' fs:=by
 refine⟨λah he=>?_,f.nd⟩;refine kB (f.ff ah he) ?_;rintro h0 L o h1 h2 h3 h4 h6;have m:L∈aI fs:=jQ.mpr (aP ah he h1);refine aO (k L o m h4) ?_;rintro o' g1 g3;exact⟨h0,L,o',h1,h2,r L m,g1,g3⟩
theorem nB.lt (f:nB h ρ n fs)(m:a∈aI fs):a<h.objs.size:=by
 refine aO (jQ.mp m) ?_;rintro ah he hl;refine kB (f.ff ah he) ?_;rintro _ L o' h1 h2 h3 h4 h6;rw[h1]at hl;(revert h1 h2 h3 h4;refine dP hl ?_;clear hl L;intro h1 h2 h3 h4);exact jD h4
theorem nB.ne (f:nB h ρ n fs)(m:a∈aI fs):N0<=a/\∀i,i<n->ρ i≠a:=by
 refine aO (jQ.mp m) ?_;rintro ah he hl;refine kB (f.ff ah he) ?_;rintro _ L o' h1 h2 h3 h4 h6;rw[h1]at hl;(revert h1 h2 h3 h4;refine dP hl ?_;clear hl L;intro h1 h2 h3 h4);exact⟨h2,h3⟩
theorem W.grow (w:W P K fs ρ σ h)(k:∀b o,h.get? b=some o->h'.get? b=some o):W P K fs ρ σ h':=by
 refine⟨⟨λi o e=>(w.hr.ob i o e).kp ⟨bc _,λZ Z=>rfl,λb o e Z=>k b o e,λZ Z e=>k _ _ e⟩ (λx e=>k _ _ e),w.hr.inj,w.hr.hi⟩,w.ba.keep (λa o Z Z e=>k a o e) (λZ e=>k _ _ e) (λb o e Z=>k b o e),w.fr.keep (λa o m e=>(aP o (k _ _ e) ?_)) λa m=>(w.fr.ne m).2⟩;refine aO (jQ.mp m) ?_;rintro ah he hl;refine kB (w.fr.ff ah he) ?_;rintro _ L o' h1 h2 h3 h4 h6;rw[h1]at hl;(revert h1 h2 h3 h4;refine dP hl ?_;intro h1 h2 h3 h4);rw[e]at h4;(revert h6;refine aT h4 ?_;intro h6);exact h6
theorem y6:∀{l:List α} {i},i<l.length->∃a,ay l i=some a
 |[],_,h=>absurd h (qb _)
 |a::_,0,_=>⟨a,rfl⟩
 |_::l,i+1,h=>y6 (l:=l) (i:=i) (ry h)
theorem W.at (w:W P K fs ρ σ h)(hi:i<σ.length):∃o,h.get? (ρ i)=some o:=by
 refine oE (y6 hi) ?_;rintro x hx;obtain q:= w.hr.ob i x hx;clear hx;induction x with
 |inst C d=>exact⟨_,q.2⟩
 |dict l=>refine dc q ?_;clear q;rintro _ _ e' _;exact⟨_,e'⟩
 |list l=>refine dc q ?_;clear q;rintro _ _ e' _;exact⟨_,e'⟩
 |cell l=>refine aO q ?_;clear q;rintro _ ⟨o',e',_⟩ _;exact⟨_,e'⟩
 |told a b=>refine Kb q ?_;clear q;rintro _ _ o' fd e' c _;exact⟨_,e'⟩
theorem W.lt (w:W P K fs ρ σ h)(hi:i<σ.length):ρ i<h.objs.size:=by
 refine oE (w.at hi) ?_;rintro o e;exact jD e
theorem W.MJ (w:W P K fs ρ σ h)(k:∀b o,h.get? b=some o->h'.get? b=some o)(hN:N0<=a)(gJ:∀i,i<σ.length->ρ i≠a)(xn:a∉aI fs)(q:OR P h' (up ρ σ.length a) (σ.length+1) a x):W P K fs (up ρ σ.length a) (σ++[x]) h':=by
 have hl:(σ++[x]).length=σ.length+1:=by simp
 have kp:Kp h ρ σ.length h' (up ρ σ.length a) (σ++[x]).length:=⟨by exact ky (hZ (eG hl)),λi hi=>fV hi,λb o e Z=>k b o e,λZ Z e=>k _ _ e⟩;refine⟨⟨λi o e=>?_,λi j hi hj e=>?_,λi hi=>?_⟩,w.ba.keep (λa o Z Z e=>k a o e) (λZ e=>k _ _ e) (λb o e Z=>k b o e),w.fr.keep (λa o m e=>(aP o (k _ _ e) ?_)) λb m i hi=>?_⟩
 ·refine aG (Kd e) ?_ (kA ?_)
  ·rintro e;rw[fV (bK e)];exact(w.hr.ob i o e).kp kp (λx e=>k _ _ e)
  ·rintro rfl rfl;rw[fX,hl];exact q
 ·rw[hl]at hi hj;by_cases p:i<σ.length<;>by_cases r:j<σ.length
  ·rw[fV p,fV r]at e;exact w.hr.inj i j p r e
  ·obtain af: j=σ.length:=by exact A6 hj r
   clear hj r;subst af;rw[fV p,fX]at e;exact absurd e (gJ i p)
  ·obtain af: i=σ.length:=by exact A6 hi p
   clear hi p;subst af;rw[fV r,fX]at e;exact absurd e.symm (gJ j r)
  ·lia
 ·rw[hl]at hi;by_cases p:i<σ.length
  ·rw[fV p];exact w.hr.hi i p
  ·obtain af: i=σ.length:=by exact A6 hi p
   clear hi p;subst af;rw[fX];exact hN
 ·refine aO (jQ.mp m) ?_;rintro ah he hl;refine kB (w.fr.ff ah he) ?_;rintro _ L o' h1 h2 h3 h4 h6;rw[h1]at hl;(revert h1 h2 h3 h4;refine dP hl ?_;intro h1 h2 h3 h4);rw[e]at h4;(revert h6;refine aT h4 ?_;intro h6);exact h6
 ·rw[hl]at hi;by_cases p:i<σ.length
  ·rw[fV p];exact(w.fr.ne m).2 i p
  ·obtain af: i=σ.length:=by exact A6 hi p
   clear hi p;subst af;rw[fX];exact λz=>xn (z▸m)
theorem W.one (w:W P K fs ρ σ h)(k:∀b o,h.get? b=some o->h'.get? b=some o)(hs:N0<=h.objs.size)(ha:h.objs.size<=a)(q:OR P h' (up ρ σ.length a) (σ.length+1) a x):W P K fs (up ρ σ.length a) (σ++[x]) h' :=
 w.MJ k (bC hs ha) (λi hi e=>absurd (e▸w.lt hi) (d8.mpr ha)) (λm=>absurd (w.fr.lt m) (d8.mpr ha)) q
theorem W.put (w:W P K fs ρ σ h)(hi:i<σ.length)(k:kx (ρ i) h h')(q:OR P h' ρ σ.length (ρ i) x):W P K fs ρ (bG σ i x) h':=by
 obtain hl:=kz σ i x;have kp:Kp h ρ σ.length h' ρ (bG σ i x).length:=⟨by exact hZ (eG hl),λZ Z=>rfl,λb o e im=>(k.2 b λz=>w.y9 hi (z▸e) im).trans e,λZ Z e=>(k.2 _ λz=>absurd (z▸w.hr.hi i hi) (by decide)).trans e⟩;have hN:=w.hr.hi i hi;refine⟨⟨λj o e=>?_,λa b ha hb e=>w.hr.inj a b (xT ha hl) (xT hb hl) e,λa ha=>w.hr.hi a (xT ha hl)⟩,w.ba.keep (λa o h1 Z e=>(k.2 a λz=>?_).trans e) (λZ e=>(k.2 _ λz=>?_).trans e) kp.kf,w.fr.keep (λa o m e=>(aP o ((k.2 a λz=>?_).trans e) ?_)) λa m j hj=>(w.fr.ne m).2 j (xT hj hl)⟩
 ·refine aG (J9 e) (kA ?_) (kA ?_)
  ·rintro rfl rfl;rw[hl];exact q
  ·rintro gJ e;rw[hl];rw[hl]at kp;exact(w.hr.ob j o e).kp kp (λx e'=>(k.2 _ λz=>gJ (w.hr.inj j i (bK e) hi z)).trans e')
 ·rw[z]at h1;exact absurd hN (tI h1)
 ·rw[<- z]at hN;exact absurd hN (by decide)
 ·exact(w.fr.ne m).2 i hi z.symm
 ·refine aO (jQ.mp m) ?_;rintro ah he hl;refine kB (w.fr.ff ah he) ?_;rintro _ L o' h1 h2 h3 h4 h6;rw[h1]at hl;(revert h1 h2 h3 h4;refine dP hl ?_;intro h1 h2 h3 h4);rw[e]at h4;(revert h6;refine aT h4 ?_;intro h6);exact h6
end
theorem tT (h:f σ=none):gt f σ=none:=by unfold gt;rw[h]
theorem lz (h:gt f σ=some (r,aj)):∃a,f σ=some a/\r=.ok a/\aj=σ:=by
 unfold gt at h;induction q:f σ with
 |none=>rw[q]at h;exact nS h
 |some a=>rw[q]at h;(refine dX h ?_;clear h r aj);exact(cO a rfl rfl rfl)
structure Rm (A:bZ)(fs:List a9)(d:Nat):Prop where
 fr:A.frames=some fs
 ne:fs≠[]
 dep:A.depth+4*d+40<=900
 un:A.units+20*d+100<=9000
 hn:A.handled=none
structure Rq (A:bZ)(fs:List a9)(d:Nat):Prop where
 fr:A.frames=some fs
 dep:A.depth+4*d+40<=900
 un:A.units+20*d+100<=9000
 hn:A.handled=none
theorem Rm.q (r:Rm A fs d):Rq A fs d:=⟨r.fr,r.dep,r.un,r.hn⟩
inductive Ch (h:bf):Nat->az->Prop
 |nil:Ch h 0 .none
 |cons {b:ax} {o:cI} {vs:Array az} {v:az} {n:Nat}:h.get? b=some o->o.cls=.ref CF->o.data=.fields vs->vs[2]?=some v->Ch h n v->Ch h (n+1) (.ref b)
noncomputable def mj (h h':bf):Prop:=∀b o vs,h.get? b=some o->o.cls=.ref CF->o.data=.fields vs->∃o' nJ,h'.get? b=some o'/\o'.cls=.ref CF/\o'.data=.fields nJ/\nJ[2]?=vs[2]?
theorem mj.refl (h:bf):mj h h:=λb o vs e c d=>(dp o vs e c d rfl)
theorem mj.grow (k:∀b o,h.get? b=some o->h'.get? b=some o):mj h h':=λb o vs e c d=>(dp o vs (k _ _ e) c d rfl)
theorem mj.trans (a:mj bU dN)(b:mj dN pv):mj bU pv:=λc o vs e q d=>by
 refine dT (a c o vs e q d) ?_;rintro o' nJ e' q' d' z;refine dT (b c o' nJ e' q' d') ?_;rintro o2 M0 e2 q2 d2 z2;exact(dp o2 M0 e2 q2 d2 (z2.trans z))
theorem Ch.keep (k:mj h h')(c:Ch h n v):Ch h' n v:=by
 induction c with
 |nil=>exact .nil
 |cons e c d q r ih =>
  refine dT (k _ _ _ e c d) ?_;rintro o' nJ e' c' d' z;exact .cons e' c' d' (z.trans q) ih
inductive et (g:bf)(L:ax)(h:bf)(e:az):Prop where
 |mk (a:ax) (o:cI) (vs:Array az) (dx:ax) (es:Array oR) (k:Nat) (od:cI):e=.ref a->N0<=a->g.get? a=none->h.get? a=some o->o.cls=.ref CF->o.dict=some dx->o.data=.fields vs->h.get? dx=some od->od.data=.dict es k ->
  (∃s t,lookIn "message" od=some (some (.str s t)))->(∃i u,lookIn "place" od=some (some (.int i u)))->(∃n v,vs[2]?=some v/\Ch h n v) ->
  (vs[1]?=some .none\/∃T oT ts,vs[1]?=some (.ref T)/\N0<=T/\g.get? T=none/\T≠a/\h.get? T=some oT/\oT.cls=.type "traceback"/\oT.data=.fields ts/\(ts[3]?=some .none\/ts[3]?=some (rawInt L)))->et g L h e
theorem et.sub (x:et g' L h e)(hs:∀c,g'.get? c=none->g.get? c=none):et g L h e:=by
 refine et.casesOn x ?_;clear x;rintro a o vs dx es k od h1 h0 h2 h3 h4 h5 h6 h7 h8 h9 lL jO pI;refine .mk a o vs dx es k od h1 h0 (hs _ h2) h3 h4 h5 h6 h7 h8 h9 lL jO (pI.imp id ?_);rintro⟨T,oT,ts,q1,q0,q2,q3⟩;exact(oW T oT ts q1 q0 (hs _ q2) q3)
theorem VC (h:∀(Q':α->aN->Prop) (E':az->aN->Prop),(∀a s,Q a s->Q' a s)->(∀e s,E e s->E' e s)->wpAny M A t Q' E' s):wpAny M A t Q E s:=h Q E (λZ Z x=>x) (λZ Z x=>x)
theorem WJ (h:∀(Q':α->aN->Prop),(∀a s,Q a s->Q' a s)->wpAny M A t Q' E s):wpAny M A t Q E s:=h Q (λZ Z x=>x)
abbrev Rl (α β:Type):=bf->(Nat->ax)->Nat->α->β->Prop
noncomputable def Zv {α β:Type}(P:bA)(K:bz)(fs:List a9)(L:ax)(X F:List ax)(ρ:Nat->ax)(σ:Sg)(s:aN)(EX:bf->(Nat->ax)->Nat->Prop)(R:Rl α β)(r:Rs α)(aj:Sg)(Q:β->aN->Prop)(E:az->aN->Prop):Prop :=
 ∀aJ s',W P K fs aJ aj s'.heap->bL X F ρ σ.length s.heap aJ aj.length s'.heap->s'.gens=s.gens->s'.os=s.os ->
  (∀a,r=.ok a->∀b,R s'.heap aJ aj.length a b->Q b s')/\(r=.exc->∀e,et s.heap L s'.heap e->EX s'.heap aJ aj.length->E e s')
noncomputable def aL {α β:Type}(M:gT)(A:bZ)(P:bA)(K:bz)(fs:List a9)(L:ax)(X F:List ax)(ρ:Nat->ax)(σ:Sg)(s:aN)(EX:bf->(Nat->ax)->Nat->Prop)(m:Mo α)(t:Sem β)(R:Rl α β):Prop :=
 ∀r aj,m σ=some (r,aj)->∀(Q:β->aN->Prop) (E:az->aN->Prop),Zv P K fs L X F ρ σ s EX R r aj Q E->wpAny M A t Q E s
section
variable {α β γ δ:Type}{M:gT}{A:bZ}{P:bA}{K:bz}{fs:List a9}{L:ax}{X F:List ax}{ρ:Nat->ax}{σ:Sg}{s:aN}{EX:bf->(Nat->ax)->Nat->Prop}
theorem aL.bind (h:aL M A P K fs L X F ρ σ s EX m t R)(hf:∀a b aJ aj s',W P K fs aJ aj s'.heap->bL X F ρ σ.length s.heap aJ aj.length s'.heap->R s'.heap aJ aj.length a b->aL M A P K fs L X F aJ aj s' EX (f a) (g b) R'):aL M A P K fs L X F ρ σ s EX (bd m f) (t>>=g) R':=by
 intro r aj e Q E hq;unfold bd at e;refine aF ?_;induction hm:m σ with
 |none=>rw[hm]at e;exact nS e
 |some p =>
  obtain⟨r1,bj⟩:=p;rw[hm]at e;induction r1 with
  |exc =>
   (revert hq hm;refine i7 e ?_;intro hq hm);refine h .exc _ hm _ E λaJ s' w st g1 g2=>⟨λa q=>by(exact nC Zq.Rs.ctorIdx q rfl),λZ e he hx=>(hq aJ s' w st g1 g2).2 rfl e he hx⟩
  |ok a =>
   refine h (.ok a) bj hm _ E λaJ s' w st g1 g2=>⟨λa' q b hb=>?_,λq=>by exact nC Zq.Rs.ctorIdx q rfl⟩;(revert hb;refine dI q ?_;intro hb);refine hf a b aJ bj s' w st hb r aj e Q E λbY s2 w2 bF g3 g4=>?_;refine oA (hq bY s2 w2 (st.trans bF) (g3.trans g1) (g4.trans g2)) ?_;rintro q1 q2;exact⟨q1,λhr e he hx=>q2 hr e (he.sub λZ=>st.nu) hx⟩
theorem aL.pure {a:α}{b:β}{R:Rl α β}(w:W P K fs ρ σ s.heap)(h:R s.heap ρ σ.length a b):aL M A P K fs L X F ρ σ s EX (rt a) (pure b) R:=by
 intro r aj e Q E hq;(revert hq;refine dX e ?_;clear e r aj;intro hq);exact bq ((hq ρ s w (.refl ..) rfl rfl).1 a rfl b h)
theorem aL.no:aL M A P K fs L X F ρ σ s EX (Zq.no (α:=α)) t R:=λr aj e=>by exact nS e
theorem aL.of_none (h:m σ=none):aL M A P K fs L X F ρ σ s EX m t R:=λr aj e=>by rw[h]at e;exact nS e
theorem aL.skip (hu:∀(Q:Unit->aN->Prop) (E:az->aN->Prop),Q () s->wpAny M A u Q E s)(h:aL M A P K fs L X F ρ σ s EX m t R):aL M A P K fs L X F ρ σ s EX m (u>>=λZ=>t) R:=λr aj e Q E hq=>aF (hu _ _ (h r aj e Q E hq))
theorem aL.hold (h:aL M A P K fs L X F ρ σ s EX m t R):aL M A P K fs L X F ρ σ s EX m (holding vs t) R :=
 λr aj e Q E hq=>fy (h r aj e Q E hq)
theorem aL.at_ (h:aL M A P K fs L X F ρ σ s EX m t R):aL M A P K fs L X F ρ σ s EX m (standAt p>>=λZ=>t) R :=
 .skip (λZ Z q=>jl q) h
theorem aL.val {a:α}(hm:∀r aj,m σ=some (r,aj)->r=.ok a/\aj=σ)(w:W P K fs ρ σ s.heap)(h:∀(Q:β->aN->Prop) (E:az->aN->Prop),(∀b s',R s'.heap ρ σ.length a b->(∀c o,s.heap.get? c=some o->s'.heap.get? c=some o)->s'.gens=s.gens->s'.os=s.os->Q b s')->wpAny M A t Q E s):aL M A P K fs L X F ρ σ s EX m t R:=by
 intro r aj e Q E hq;refine oA (hm r aj e) ?_;rintro rfl rfl;exact h Q E λb s' hb k g1 g2=>(hq ρ s' (w.grow k) (.grow k) g1 g2).1 a rfl b hb
theorem aL.aX (h:∀a,o=some a->aL M A P K fs L X F ρ σ s EX (f a) t R):aL M A P K fs L X F ρ σ s EX (bd (Zq.aX o) f) t R:=by
 induction o with
 |none=>exact λr aj e=>by exact nS e
 |some a=>exact λr aj e=>h a rfl r aj e
theorem aL.gt (h:∀a,o σ=some a->aL M A P K fs L X F ρ σ s EX (f a) t R):aL M A P K fs L X F ρ σ s EX (bd (Zq.gt o) f) t R:=by
 intro r aj e;unfold bd Zq.gt at e;induction q:o σ with
 |none=>rw[q]at e;exact nS e
 |some a=>rw[q]at e;exact h a q r aj e
theorem aL.lift (h:aL M A P K fs L [] F ρ σ s EX m t R)(hx:∀aJ aj h',W P K fs aJ aj h'->bL [] F ρ σ.length s.heap aJ aj.length h'->EX h' aJ aj.length->ZU h' aJ aj.length):aL M A P K fs L X' F ρ σ s ZU m t R :=
 λr aj e Q E hq=>h r aj e Q E λaJ s' w st g1 g2=>by
  refine oA (hq aJ s' w (st.sub (λZ h=>nomatch h) (λZ h=>.inl h) λZ h=>.inl h) g1 g2) ?_;rintro q1 q2;exact⟨q1,λhr e he hh=>q2 hr e he (hx _ _ _ w st hh)⟩
end
theorem BM:∀{a b},o7 a b=true↔a=b
 |[],[]=>⟨λZ=>rfl,λZ=>rfl⟩
 |[],_::_=>⟨λh=>by exact fT h,λh=>(List.cons_ne_nil _ _ h.symm).elim⟩
 |_::_,[]=>⟨λh=>by exact fT h,λh=>(List.cons_ne_nil _ _ h).elim⟩
 |a::l,b::r=>by
  show(match bx a b with|true=>o7 l r|false=>false)=true↔_;induction h:bx a b with
  |true=>rw[eS h];exact BM.trans ⟨congrArg _,λe=>(BF e).2⟩
  |false=>exact⟨λh=>by exact fT h,λe=>absurd (BF e).1 (vd h)⟩
theorem eh:bg a b=true↔a=b:=by
 unfold bg;rw[BM];obtain⟨⟨a⟩⟩:=a;obtain⟨⟨b⟩⟩:=b;simp
theorem BI (a:ak):bg a a=true:=eh.mpr rfl
theorem vJ (a b:ak):bg a b=(a==b):=by
 induction h:bg a b with
 |true=>rw[eh.mp h];simp
 |false =>
  obtain af: a≠b:=λe=>by rw[eh.mpr e]at h;exact tF h
  simp[af]
theorem fA (x:ak)(p:ak×α)(r:List (ak×α)):lk x (p::r)=if x=p.1 then some p.2 else lk x r:=by
 show(match bg x p.1 with|true=>some p.2|false=>lk x r)=_;by_cases h:x=p.1
 ·rw[eh.mpr h,if_pos h]
 ·obtain af: bg x p.1=false:=by
   induction q:bg x p.1 with
   |false=>rfl
   |true=>exact absurd (eh.mp q) h
  rw[af,if_neg h]
theorem iY (x:ak):∀(l:List (ak×α)),lk x l=l.lookup x
 |[]=>rfl
 |p::r=>by
  rw[fA,gh,iY x r];by_cases h:x=p.1
  ·(refine ir h ?_);simp
  ·obtain af: (x==p.1)=false:=beq_eq_false_iff_ne.mpr h;rw[if_neg h,af]
theorem wq (x y:ak)(v:V):∀(l:List (ak×V)),lk x (pu y v l)=if x=y then some v else lk x l
 |[]=>by
  show lk x [(y,v)]=_;rw[fA]
 |p::r=>by
  dsimp only[pu];by_cases h:y=p.1
  ·rw[eh.mpr h];skip;rw[fA,fA];skip;(refine il h ?_);by_cases q:x=p.1<;>simp[q]
  ·obtain af: bg y p.1=false:=by
    induction q:bg y p.1 with
    |false=>rfl
    |true=>exact absurd (eh.mp q) h
   rw[af];skip;rw[fA,wq x y v r,fA];by_cases q:x=p.1
   ·obtain af: x≠y:=λz=>h (z▸q);simp[q];intro z;exact absurd z.symm h
   ·simp[q]
structure eK (h:bf)(ρ:Nat->ax)(n:Nat)(U:Fm)(ah:a9):Prop where
 k:ah.scope.kind=.function
 g:ah.globals=mainGlobals
 b:ah.builtins=builtinsNs
 ns:∃m,h.Ns ah.locals m/\∀x v,lk x U.loc=some v->∃y,m x=some y/\VR h ρ n v y
 lo:N0<=ah.locals
 ap:∀i,i<n->ρ i≠ah.locals
 kl:∀x,bI x U.sc=some .local->ah.kindOf x=some .local
 kg:∀x,bI x U.sc=some .globalImplicit->ah.kindOf x=some .globalImplicit
 kc:∀x i,(bI x U.sc=some .cell\/bI x U.sc=some .free)->lk x U.cz=some i->i<n/\(ah.kindOf x=some .cell\/ah.kindOf x=some .free)/\ah.cells.lookup x=some (ρ i)
 kk:∀x,bI x U.sc=some .cell->ah.kindOf x=some .cell
 nm:∀x q,bI x U.sc=some q->(x==("__debug__":ak))=false/\(x==("__classdict__":ak))=false
theorem eK.tc {K:bz}(e:eK h ρ σ.length U ah)(w:W P K fs ρ σ h)(st:bL [] F ρ σ.length h aJ n' h')(hF:∀b,b∈F->b∈aI fs):eK h' aJ n' U ah:=by
 obtain kp:= w.kp st (λZ h=>nomatch h) hF;refine aO e.ns ?_;rintro m el hm;refine⟨e.k,e.g,e.b,(aP m ?_ (λx v q=>(hm x v q).imp λy z=>⟨z.1,z.2.kp kp⟩)),e.lo,λi hi=>?_,e.kl,e.kg,λx i q1 q2=>?_,e.kk,e.nm⟩
 ·refine dG el ?_;rintro o es ep ho hd r;by_cases q:ah.locals∈F
  ·refine oE (st.slot _ _ q (λh=>nomatch h) ho) ?_;rintro sl z;exact(ik _ es ep z hd r)
  ·exact(ik o es ep (st.keep _ _ ho (λi hi z=>e.ap i hi z.symm) (λh=>nomatch h) q (λz=>absurd (z▸e.lo) (by decide))) hd r)
 ·by_cases q:i<σ.length
  ·rw[st.ext i q];exact e.ap i q
  ·obtain h1:= st.new i (eN q) hi;refine jI el ?_;rintro o _ _ ho _;intro z;rw[z,ho]at h1;exact sN h1
 ·refine fp (e.kc x i q1 q2) ?_;rintro a b c;exact(dg (fK a st.le) b (by rw[st.ext i a];exact c))
structure Ctx (P:bA)(K:bz)(A:bZ)(fs:List a9)(L:ax)(ah:a9)(U:Fm)(ρ:Nat->ax)(σ:Sg)(h:bf):Prop where
 rm:Rm A fs U.d
 hd:∃f r,fs=f::r/\f.frame=some L
 ef:ah.frame=some L
 w:W P K fs ρ σ h
 e:eK h ρ σ.length U ah
noncomputable def RV:Rl V az:=λh ρ n v x=>VR h ρ n v x
noncomputable def Od:Rl (List V) (List az):=λh ρ n v x=>aW h ρ n v x
noncomputable def RB:Rl Bool Bool:=λZ Z Z a b=>a=b
noncomputable def rf:Rl An az:=λh ρ n a x=>∃v,a=.v v/\VR h ρ n v x
noncomputable def Mp:Rl An (List az):=λh ρ n a x=>∃v,a=.vs v/\aW h ρ n v x
noncomputable def Aa:Rl An Bool:=λZ Z Z a b=>a=.b b
theorem Ctx.step {K:bz}(c:Ctx P K A fs L ah U ρ σ h)(w:W P K fs aJ aj h')(st:bL [] (aI fs) ρ σ.length h aJ aj.length h'):Ctx P K A fs L ah U aJ aj h' :=
 ⟨c.rm,c.hd,c.ef,w,c.e.tc c.w st λZ h=>h⟩
noncomputable def F6 (h:bf)(ρ:Nat->ax)(n:Nat):Fl->j9->Prop
 |.next,f=>f=.next
 |.brk,f=>f=.brk
 |.ret v,f=>∃x,f=.ret x/\VR h ρ n v x
noncomputable def RF (ah:a9)(U:Fm):Rl An j9:=λh ρ n a f=>∃fl cg,a=.f fl cg/\F6 h ρ n fl f/\eK h ρ n cg ah/\cW cg=cW U
noncomputable def w0 (ah:a9)(U:Fm):Rl Fm Unit:=λh ρ n cg Z=>eK h ρ n cg ah/\cW cg=cW U
noncomputable def cX (ah:a9)(U:Fm):bf->(Nat->ax)->Nat->Prop:=λh ρ n=>eK h ρ n (cW U) ah
noncomputable def cD:bf->(Nat->ax)->Nat->Prop:=λZ Z Z=>True
theorem yw (x:ak)(p:ak->Bool):∀(l:List (ak×V)) (v:V),lk x (l.filter λq=>p q.1)=some v->lk x l=some v
 |[],_,e=>by exact nS e
 |q::r,v,e=>by
  rw[oN]at e;rw[fA];by_cases h:p q.1=true
  ·rw[if_pos h,fA]at e;by_cases z:x=q.1
   ·rw[if_pos z]at e ⊢;exact e
   ·rw[if_neg z]at e ⊢;exact yw x p r v e
  ·rw[if_neg h]at e;have af:=yw x p r v e;by_cases z:x=q.1
   ·exfalso;subst z;have af:∀(l:List (ak×V)),lk q.1 (l.filter λq=>p q.1)=none:=λl=>by
     induction l with
     |nil=>rfl
     |cons a l ih =>
      rw[oN];by_cases h2:p a.1=true
      ·rw[if_pos h2,fA,if_neg (λ(z:q.1=a.1)=>h (by rw[z];exact h2))];exact ih
      ·rw[if_neg h2];exact ih
    rw[af]at e;exact nS e
   ·rw[if_neg z];exact af
theorem eK.cW (e:eK h ρ n U ah):eK h ρ n (Zq.cW U) ah:=by
 refine aO e.ns ?_;rintro m a b;exact⟨e.k,e.g,e.b,(aP m a (λx v q=>b x v (yw x (λy=>U.ro.any (bg y)) _ v q))),e.lo,e.ap,e.kl,e.kg,e.kc,e.kk,e.nm⟩
noncomputable def mA (g:bf)(L:ax)(h:bf)(e:az):Prop:=et g L h e/\∃a o vs T,e=.ref a/\h.get? a=some o/\o.data=.fields vs/\vs[1]?=some (.ref T)
noncomputable def iW (h:bf)(ρ:Nat->ax)(n:Nat)(I:ax):It->Prop
 |.tup l=>∃a ys k i,h.get? a=some {cls:=.type "tuple",data:=.seq ys k}/\h.IsTupleIter I a i/\aW h ρ n l (ys.toList.drop i)
 |.cm a b=>IsRangeIter h I a (b-a) 1
 |.str l=>∃ty x t i,(ty="str_ascii_iterator"\/ty="str_iterator")/\h.IsStrIter I ty x t i/\x.cps.toList.drop i=l
 |.list r k=>r<n/\h.IsListIter I (ρ r) k
noncomputable def NI (P:bA)(K:bz)(fs:List a9)(L:ax)(X F:List ax)(cP:Nat->ax)(cQ:Nat)(eM:bf)(s:aN)(EX:bf->(Nat->ax)->Nat->Prop)(R:Rl An j9)(r:Rs An)(aj:Sg)(Q:nq->aN->Prop):Prop :=
 ∀aJ s',W P K fs aJ aj s'.heap->bL X F cP cQ eM aJ aj.length s'.heap->s'.gens=s.gens->s'.os=s.os ->
  (∀a,r=.ok a->∀f,R s'.heap aJ aj.length a f->Q (.ok f) s')/\(r=.exc->∀e,mA eM L s'.heap e->EX s'.heap aJ aj.length->Q (.error e) s')
noncomputable def wK (M:gT)(A:bZ)(P:bA)(K:bz)(fs:List a9)(L:ax)(X F:List ax)(cP:Nat->ax)(cQ:Nat)(eM:bf)(σ:Sg)(s:aN)(EX:bf->(Nat->ax)->Nat->Prop)(m:Mo An)(c:Code)(R:Rl An j9):Prop :=
 ∀r aj,m σ=some (r,aj)->∀(Q:nq->aN->Prop),NI P K fs L X F cP cQ eM s EX R r aj Q->codeAny M A c Q s
noncomputable def MN (M:gT)(A:bZ)(P:bA)(K:bz)(fs:List a9)(L:ax)(X F:List ax)(ρ:Nat->ax)(σ:Sg)(s:aN)(EX:bf->(Nat->ax)->Nat->Prop)(m:Mo An)(c:Code)(R:Rl An j9):Prop :=
 ∀r aj,m σ=some (r,aj)->∀(Q:nq->aN->Prop),NI P K fs L X F ρ σ.length s.heap s EX R r aj Q->codeAny M A c Q s
structure Apart (fs:List a9)(ρ:Nat->ax)(n:Nat)(I:ax):Prop where
 hi:N0<=I
 own:∀i,i<n->ρ i≠I
 fr:I∉aI fs
noncomputable def NY (P:bA)(K:bz)(fs:List a9)(L:ax)(ρ:Nat->ax)(σ:Sg)(s:aN)(r:Rs V)(aj:Sg)(R:nq->aN->Prop):Prop :=
 ∀aJ s',W P K fs aJ aj s'.heap->bL [] (aI fs) ρ σ.length s.heap aJ aj.length s'.heap->s'.gens=s.gens->s'.os=s.os ->
  (∀v,r=.ok v->∀x,VR s'.heap aJ aj.length v x->R (.ok (.ret x)) s')/\(r=.exc->∀e,et s.heap L s'.heap e->R (.error e) s')
noncomputable def kI (M:gT)(A:bZ)(P:bA)(K:bz)(fs:List a9)(L:ax)(ρ:Nat->ax)(σ:Sg)(s:aN)(m:Mo V)(c:Code):Prop :=
 ∀r aj,m σ=some (r,aj)->∀(R:nq->aN->Prop),NY P K fs L ρ σ s r aj R->codeAny M A c R s
structure Ih (au:cB)(w:bw)(K:bz)(sf:Jb->Mo An):Prop where
 e:∀{A fs L ah U ρ σ s} (x:Expr),Ctx w.params K A fs L ah U ρ σ s.heap->aL (model au w) A w.params K fs L [] (aI fs) ρ σ s cD (sf (.e U x)) (eval x ah) rf
 es:∀{A fs L ah U ρ σ s} (xs:List Expr) (pos:aZ),Ctx w.params K A fs L ah U ρ σ s.heap->aL (model au w) A w.params K fs L [] (aI fs) ρ σ s cD (sf (.es U xs)) (spliced (backTo pos (starEach xs ah))) Mp
 t:∀{A fs L ah U ρ σ s} (x:Expr),Ctx w.params K A fs L ah U ρ σ s.heap->aL (model au w) A w.params K fs L [] (aI fs) ρ σ s cD (sf (.t U x)) (isTrue x ah (eval x ah)) Aa
 ts:∀{A fs L ah U ρ σ s} (op:BoolOp) (xs:List Expr),Ctx w.params K A fs L ah U ρ σ s.heap->aL (model au w) A w.params K fs L [] (aI fs) ρ σ s cD (sf (.ts U op xs)) (allTrue op xs ah) Aa
 bo:∀{A fs L ah U ρ σ s} (op:BoolOp) (xs:List Expr) (pos:aZ),Ctx w.params K A fs L ah U ρ σ s.heap->aL (model au w) A w.params K fs L [] (aI fs) ρ σ s cD (sf (.bo U op xs)) (boolOp pos op (evalEach xs ah)) rf
 ch:∀{A fs L ah U ρ σ s} (v:V) (left:az) (bW:List mw) (xs:List Expr) (pos:aZ),Ctx w.params K A fs L ah U ρ σ s.heap->VR s.heap ρ σ.length v left ->
  aL (model au w) A w.params K fs L [] (aI fs) ρ σ s cD (sf (.ch U v bW xs)) (compareChain pos left bW (markedEach bW xs (evalEach xs ah))) rf /\
  aL (model au w) A w.params K fs L [] (aI fs) ρ σ s cD (sf (.ch U v bW xs)) (testChain pos left bW (markedEach bW xs (evalEach xs ah))) (λZ Z Z a b=>a=.v (.bool b))
 ca:∀{A fs L ρ σ s} (d:Nat) (f:V) (av:List V) (fv:az) (vs:List az),Rm A fs d->W w.params K fs ρ σ s.heap->VR s.heap ρ σ.length f fv->aW s.heap ρ σ.length av vs ->
  aL (model au w) A w.params K fs L [] (aI fs) ρ σ s cD (sf (.ca d f av)) (call fv vs) rf
 cf:∀{A fs L ρ σ s} (d:Nat) (a:ax) (av:List V) (vs:List az),Rm A fs d->W w.params K fs ρ σ s.heap->aW s.heap ρ σ.length av vs ->
  kI (model au w) A w.params K fs L ρ σ s (sV sf (.ca d (.fn a) av)) (.call (.ref a) ⟨vs,[]⟩)
 s:∀{A fs L ah U ρ σ s} (x:bO),Ctx w.params K A fs L ah U ρ σ s.heap->aL (model au w) A w.params K fs L [ah.locals] (aI fs) ρ σ s (cX ah U) (sf (.s U x)) (exec x ah) (RF ah U)
 wh:∀{A fs L ah U ρ σ s} (t:Expr) (b:List bO),Ctx w.params K A fs L ah U ρ σ s.heap->MN (model au w) A w.params K fs L [ah.locals] (aI fs) ρ σ s (cX ah U) (sf (.wh U t b)) (.whileLoop t b [] ah) (RF ah U)
 fo:∀{A fs L ah U ρ σ s} (t:Expr) (it:It) (b:List bO) (I:ax) (cP:Nat->ax) (cQ:Nat) (eM:bf),Ctx w.params K A fs L ah U ρ σ s.heap->iW s.heap ρ σ.length I it->Apart fs ρ σ.length I ->
  bL [ah.locals] (aI fs) cP cQ eM ρ σ.length s.heap->eM.get? I=none ->
  wK (model au w) A w.params K fs L [ah.locals] (aI fs) cP cQ eM σ s (cX ah U) (sf (.fo U t it b)) (.forLoop t (.ref I) b [] ah) (RF ah U)
 cp:∀{A fs L ah U ρ σ s} (elt t iter:Expr) (ifs:List Expr) (sc:fh) (pos:aZ) (it:It) (aA:Nat) (I:ax) (cP:Nat->ax) (cQ:Nat) (eM:bf),Ctx w.params K A fs L ah U ρ σ s.heap->iW s.heap ρ σ.length I it->Apart fs ρ σ.length I ->
  bL [ah.locals] (aI fs) cP cQ eM ρ σ.length s.heap->eM.get? I=none->aA<σ.length ->
  wK (model au w) A w.params K fs L [ah.locals] (aI fs) cP cQ eM σ s (λZ Z Z=>True) (nx (sf (.cp U elt t ifs it aA))) (.compLoop (.ListComp elt [⟨t,iter,ifs,0⟩] sc pos) 0 (.ref I) (.ref (ρ aA)) ah) (λh aJ n a f=>a=.v (.ref aA)/\f=.next/\(∃m,h.Ns ah.locals m)/\(∀i,i<n->aJ i≠ah.locals)/\aA<n/\aJ aA=ρ aA)
 ss:∀{A fs L ah U ρ σ s} (xs:List bO),Ctx w.params K A fs L ah U ρ σ s.heap->aL (model au w) A w.params K fs L [ah.locals] (aI fs) ρ σ s (cX ah U) (sf (.ss U xs)) (execs xs ah) (RF ah U)
section
variable {au:cB}{w:bw}{K:bz}{sf:Jb->Mo An}{A:bZ}{fs:List a9}{L:ax}{ah:a9}{U:Fm}{ρ:Nat->ax}{σ:Sg}{s:aN}
theorem dR (I:Ih au w K sf)(x:Expr)(c:Ctx w.params K A fs L ah U ρ σ s.heap):aL (model au w) A w.params K fs L [] (aI fs) ρ σ s cD (sE sf U x) (eval x ah) RV:=by
 obtain h:=(I.e x c).bind (f:=λ|.v v=>rt v|_=>no) (g:=λx=>pure x) (R':=RV) λa b aJ aj s' w' st r=>by
  refine aO r ?_;clear r;rintro v rfl r;exact .pure w' r
 rwa [show(eval x ah>>=λx=>pure x)=eval x ah from bind_pure _]at h
end
structure qS (P:PE)(K:bz):Prop where
 glob:∀x v,P.glob x=some v->∃y,(nsIn K mainGlobals x=some (some y)\/(nsIn K mainGlobals x=some none/\bootBuiltins x=some y/\x≠("__name__":ak)))/\∀h ρ n,K.In h->VR h ρ n v y
 jv:∀C x r,P.jv C x=some r->hasDictIn K C=true/\plainGet K C x=true/\copiedNames.contains x=false/\findIn K (.ref C) x=some (r.map dn) /\
  (∀a,r=some a->typeIn K (.ref a)=some (.type "function")/\specialIn K (.ref a) "__get__"=some (some (.builtin "function.__get__"))/\takesIn K (.ref a)=some false) /\
  findIn K (.ref C) "__setattr__"=some (some (.builtin "object.__setattr__"))/\plainOver K C=true/\takerIn K C x=some none
section
variable {au:cB}{w:bw}{K:bz}{P:PE}{sf:Jb->Mo An}{A:bZ}{fs:List a9}{L:ax}{ah:a9}{U:Fm}{ρ:Nat->ax}{σ:Sg}{s:aN}
theorem aL.now {α β:Type}{M:gT}{X F:List ax}{EX:bf->(Nat->ax)->Nat->Prop}{m:Mo α}{t:Sem β}{R:Rl α β}{a:α}(hm:∀r aj,m σ=some (r,aj)->r=.ok a/\aj=σ)(hw:W w.params K fs ρ σ s.heap)
 (h:∀(Q:β->aN->Prop) (E:az->aN->Prop),(∀b tk,R s.heap ρ σ.length a b->Q b {s with toks:=tk})->wpAny M A t Q E s) :
 aL M A w.params K fs L X F ρ σ s EX m t R:=by
 intro r aj e Q E hq;refine oA (hm r aj e) ?_;rintro rfl rfl;exact h Q E λb tk hb=>(hq ρ {s with toks:=tk} hw (.refl ..) rfl rfl).1 a rfl b hb
theorem dU (e:rt a σ=some (r,aj)):r=.ok a/\aj=σ:=by(refine dX e ?_;clear e r aj);exact⟨rfl,rfl⟩
theorem Qw (c:Const)(k:Nat)(pos:aZ)(cx:Ctx w.params K A fs L ah U ρ σ s.heap) :
 aL (model au w) A w.params K fs L [] (aI fs) ρ σ s cD (aX (Di c)) (eval (.Constant c k pos) ah) RV:=by
 show aL _ _ _ _ _ _ _ _ _ _ _ _ _ (constValue ah c) _;induction c with
 |none=>exact .now (λZ Z e=>dU e) cx.w λQ E h=>bq (h _ _ rfl)
 |bool b=>exact .now (λZ Z e=>dU e) cx.w λQ E h=>bq (h _ _ rfl)
 |int i=>exact .now (λZ Z e=>dU e) cx.w λQ E h=>wpAny_mkInt (h _ _ ⟨_,rfl⟩)
 |str x=>exact .now (λZ Z e=>dU e) cx.w λQ E h=>yB (h _ _ ⟨_,rfl⟩)
 |_=>exact .no
theorem Sz (PO:qS P K)(x:ak)(pos:aZ)(cx:Ctx w.params K A fs L ah U ρ σ s.heap) :
 aL (model au w) A w.params K fs L [] (aI fs) ρ σ s cD (ig P U x) (eval (.Name x pos) ah) RV:=by
 unfold ig;induction hk:bI x U.sc with
 |none=>exact .no
 |some k =>
  obtain hd:=cx.e.nm x k hk;induction k with
  |«local» =>
   dsimp only;induction hv:lk x U.loc with
   |none=>exact .no
   |some v =>
    refine aO cx.e.ns ?_;rintro m hn hm;refine aO (hm x v hv) ?_;rintro y h1 h2;exact .now (λZ Z e=>dU e) cx.w λQ E h=>vU (Bg cx.e.k (cx.e.kl x hk) hn h1 (h y s.toks h2)) hd.1
  |globalImplicit =>
   dsimp only;induction hv:P.glob x with
   |none=>exact .no
   |some v =>
    refine aO (PO.glob x v hv) ?_;rintro y h1 h2;have h2:=h2 s.heap ρ σ.length cx.w.ba.k;refine cj cx.w.ba.ns ?_;rintro mg mb g1 g2 g3;refine .now (λZ Z e=>dU e) cx.w λQ E h=>?_;refine Bh cx.e.k (cx.e.kg x hk) ?_ hd.1;refine aG h1 ?_ (tx ?_)
    ·rintro h1;exact loadGlobal_global (by rw[cx.e.g];exact g1) (mg_of cx.w.ba.k g1 h1) (h y s.toks h2)
    ·rintro h1 h3 h4;exact loadGlobal_builtin (by rw[cx.e.g];exact g1) (mg_none_of cx.w.ba.k g1 h1) (by rw[cx.e.b];exact g2) ((g3 x h4).trans h3) (h y s.toks h2)
  |cell =>
   skip;refine .aX λi hi=>?_;induction hc:ay σ i with
   |none=>exact .of_none (tT (by rw[hc]))
   |some o =>
    induction o with
    |cell v =>
     induction v with
     |none=>exact .of_none (tT (by rw[hc]))
     |some v =>
      refine fp (cx.e.kc x i (.inl hk) hi) ?_;rintro a b c;refine aO (cx.w.hr.ob i _ hc) ?_;rintro z q1 q2;induction z with
      |none=>exact q2.elim
      |some z=>exact .now (a:=v) (λZ Z e=>by refine cy (lz e) ?_;rintro a q h1 h2;rw[hc]at q;cases q;exact⟨h1,h2⟩) cx.w λQ E h=>vU (by
       refine aG b ?_ ?_
       ·rintro b;exact wpAny_loadName_cell cx.e.k b c q1 (h z s.toks q2)
       ·rintro b;exact wpAny_loadName_free cx.e.k b c q1 (h z s.toks q2) hd.2) hd.1
    |_=>exact .of_none (tT (by rw[hc]))
  |free =>
   skip;refine .aX λi hi=>?_;induction hc:ay σ i with
   |none=>exact .of_none (tT (by rw[hc]))
   |some o =>
    induction o with
    |cell v =>
     induction v with
     |none=>exact .of_none (tT (by rw[hc]))
     |some v =>
      refine fp (cx.e.kc x i (.inr hk) hi) ?_;rintro a b c;refine aO (cx.w.hr.ob i _ hc) ?_;rintro z q1 q2;induction z with
      |none=>exact q2.elim
      |some z=>exact .now (a:=v) (λZ Z e=>by refine cy (lz e) ?_;rintro a q h1 h2;rw[hc]at q;(refine dP q ?_);exact⟨h1,h2⟩) cx.w λQ E h=>vU (by
       refine aG b ?_ ?_
       ·rintro b;exact wpAny_loadName_cell cx.e.k b c q1 (h z s.toks q2)
       ·rintro b;exact wpAny_loadName_free cx.e.k b c q1 (h z s.toks q2) hd.2) hd.1
    |_=>exact .of_none (tT (by rw[hc]))
  |globalExplicit=>exact .no
end
section
variable {α β γ δ:Type}{M:gT}{A:bZ}{P:bA}{K:bz}{fs:List a9}{L:ax}{X F:List ax}{ρ:Nat->ax}{σ:Sg}{s:aN}{EX:bf->(Nat->ax)->Nat->Prop}
theorem aL.EC (h:aL M A P K fs L X F ρ σ s EX m t R):aL M A P K fs L X F ρ σ s EX m (operate vs t) R :=
 λr aj e Q E hq=>by
  skip;refine aF (fy (ql (h r aj e Q E hq) (λa s' z=>?_) λZ Z z=>z));exact aF (vG (bq z))
theorem aL.new {a:α}(hm:∀r aj,m σ=some (r,aj)->r=.ok a/\aj=σ++[o])(hs:N0<=s.heap.objs.size)(w:W P K fs ρ σ s.heap) (h:∀(Q:β->aN->Prop) (E:az->aN->Prop),(∀b c s',(∀b o,s.heap.get? b=some o->s'.heap.get? b=some o)->s.heap.objs.size<=c ->
 OR P s'.heap (up ρ σ.length c) (σ.length+1) c o->R s'.heap (up ρ σ.length c) (σ.length+1) a b->s'.gens=s.gens->s'.os=s.os->Q b s')->wpAny M A t Q E s):aL M A P K fs L X F ρ σ s EX m t R:=by
 intro r aj e Q E hq;refine oA (hm r aj e) ?_;rintro rfl rfl;obtain hl:(σ++[o]).length=σ.length+1:=by simp
 refine h Q E λb c s' k hc ho hr g1 g2=>?_;obtain w':= w.one k hs hc ho;refine(hq (up ρ σ.length c) s' w' (by rw[hl];exact .one k (get_none hc)) g1 g2).1 a rfl b (by rw[hl];exact hr)
end
theorem Rm.room (r:Rm A fs d):A.units<cLine:=by have af:=r.un;unfold cLine;lia
theorem W.sz {K:bz}(w:W P K fs ρ σ h)(hn:fs≠[]):N0<=h.objs.size:=by
 induction fs using aQ with
 |nil=>exact absurd rfl hn
 |cons f r =>
  refine kB (w.fr.ff f (.head _)) ?_;rintro _ L o h1 h2 h3 h4 _;exact bC h2 (ky (jD h4))
theorem aW.app:∀{l r} {xs ys},aW h ρ n l xs->aW h ρ n r ys->aW h ρ n (l++r) (xs++ys)
 |[],_,_,_,a,b=>by subst a;exact b
 |v::l,r,_,ys,a,b=>by
  refine cj a ?_;clear a;rintro y q rfl a1 a2;show aW h ρ n (v::(l++r)) _;exact(ey y (q++ys) rfl a1 (a2.app b))
theorem aW.len:∀{l} {xs},aW h ρ n l xs->xs.length=l.length
 |[],_,a=>by subst a;rfl
 |v::l,_,a=>by
  refine cj a ?_;clear a;rintro y q rfl a1 a2;simp[a2.len]
theorem aW.ay:∀{l} {xs} {i} {v},aW h ρ n l xs->Zq.ay l i=some v->∃y,xs[i]?=some y/\VR h ρ n v y
 |[],_,_,_,a,e=>by exact nS e
 |v::l,_,0,_,a,e=>by
  refine cj a ?_;clear a;rintro y q rfl a1 a2;(refine aT e ?_;clear e);exact(aP y rfl a1)
 |v::l,_,i+1,_,a,e=>by
  refine cj a ?_;clear a;rintro y q rfl a1 a2;exact a2.ay (i:=i) e
section
variable {au:cB}{w:bw}{K:bz}{P:PE}{sf:Jb->Mo An}{A:bZ}{fs:List a9}{L:ax}{ah:a9}{U:Fm}{ρ:Nat->ax}{σ:Sg}{s:aN}{X F:List ax}{EX:bf->(Nat->ax)->Nat->Prop}{d:Nat}
theorem lh (hw:W w.params K fs ρ σ s.heap)(e:listAt i σ=some l):i<σ.length/\∃ys k,s.heap.get? (ρ i)=some {cls:=.type "list",data:=.seq ys k}/\aW s.heap ρ σ.length l ys.toList:=by
 unfold listAt at e;induction q:ay σ i with
 |none=>rw[q]at e;exact nS e
 |some o =>
  rw[q]at e;induction o using O.casesOn with
  |list m=>obtain z:=jR e;clear e;subst z;exact⟨bK q,hw.hr.ob i _ q⟩
  |_=>exact nS e
theorem B9 (hw:W w.params K fs ρ σ s.heap)(e:qz i σ=some l):i<σ.length/\∃es k,s.heap.get? (ρ i)=some (dictOf es k)/\ki w.params s.heap ρ σ.length l es:=by
 unfold qz at e;induction q:ay σ i with
 |none=>rw[q]at e;exact nS e
 |some o =>
  rw[q]at e;induction o using O.casesOn with
  |dict m=>obtain z:=jR e;clear e;subst z;exact⟨bK q,hw.hr.ob i _ q⟩
  |_=>exact nS e
theorem Q4 (hw:W w.params K fs ρ σ s.heap)(e:sd i σ=some q):i<σ.length/\q.2<σ.length/\s.heap.get? (ρ i)=some (instObj q.1 (ρ q.2)):=by
 unfold sd at e;induction q:ay σ i with
 |none=>rw[q]at e;exact nS e
 |some o =>
  rw[q]at e;induction o using O.casesOn with
  |inst C dd=>obtain z:=jR e;clear e;subst z;exact⟨bK q,hw.hr.ob i _ q⟩
  |_=>exact nS e
theorem TS (rm:Rm A fs d)(hw:W w.params K fs ρ σ s.heap)(ha:VR s.heap ρ σ.length a x)(hb:VR s.heap ρ σ.length b y):aL (model au w) A w.params K fs L X F ρ σ s EX (Em a b) (binaryOp .Add x y) RV:=by
 have r1:∀{i j},VR s.heap ρ σ.length (.ref i) x->VR s.heap ρ σ.length (.ref j) y->aL (model au w) A w.params K fs L X F ρ σ s EX (Em (.ref i) (.ref j)) (binaryOp .Add x y) RV:=λ{i j} ha hb=>by
  show aL _ _ _ _ _ _ _ _ _ _ _ _ (bd (gt (listAt i)) λl=>bd (gt (listAt j)) λr=>match fits (l.length+r.length) with
   |true=>bd (al (.list (l++r))) λk=>rt (V.ref k)
   |false=>no) _ _
  refine oA ha ?_;clear ha;rintro hi rfl;refine oA hb ?_;clear hb;rintro hj rfl;refine .gt λl hl=>.gt λr hr=>?_;refine iq (lh hw hl) ?_;rintro _ ys c e1 e2;refine iq (lh hw hr) ?_;rintro _ zs c' e3 e4;induction hf:fits (l.length+r.length) with
  |false=>exact .no
  |true =>
   refine .new (o:=.list (l++r)) (a:=.ref σ.length) (λr' aj e=>by(refine dX e ?_);exact⟨rfl,rfl⟩) (hw.sz rm.ne) hw λQ E h=>?_;obtain dv: ys.size+zs.size<=sizeLine:=by
    obtain h1:= e2.len;obtain h2:= e4.len;obtain h3:= dA hf;simp only[Hp]at h1 h2;rw[h1,h2];exact h3
   refine P.add_list e1 e3 (h _ s.heap.objs.size _ (λb o e=>dF _ e) (bc _) ?_ ?_ rfl rfl) dv
   ·refine(cF _ _ (hW _ rfl) ?_);rw[Bd];obtain kp:Kp s.heap ρ σ.length (s.heap.push {cls:=.type "list",data:=.seq (ys++zs)}) (up ρ σ.length s.heap.objs.size) (σ.length+1):=⟨iF _,λi hi=>fV hi,λb o e Z=>dF _ e,λZ Z e=>dF _ e⟩;exact(e2.kp kp).app (e4.kp kp)
   ·show VR _ _ _ (.ref σ.length) _;exact⟨mP _,by rw[fX]⟩
 induction a using V.casesOn with
 |int p =>
  induction b using V.casesOn with
  |int q =>
   refine oE ha ?_;clear ha;rintro t rfl;refine oE hb ?_;clear hb;rintro u rfl;exact .now (λZ Z e=>dU e) hw λQ E h=>O8 (h _ _ ⟨_,rfl⟩)
  |_=>exact .no
 |str p =>
  induction b using V.casesOn with
  |str q =>
   refine oE ha ?_;clear ha;rintro t rfl;refine oE hb ?_;clear hb;rintro u rfl;show aL _ _ _ _ _ _ _ _ _ _ _ _ (match fits (p.length+q.length) with|true=>rt (V.str (p++q))|false=>no) _ _;induction hf:fits (p.length+q.length) with
   |false=>exact .no
   |true=>exact .now (λZ Z e=>dU e) hw λQ E h=>PyProof.Rows.add_str (λt' tk=>h _ _ ⟨_,rfl⟩) (dA hf)
  |_=>exact .no
 |ref i =>
  induction b using V.casesOn with
  |ref j=>exact r1 ha hb
  |_=>exact .no
 |_=>exact .no
theorem HJ (h:small x=true):Builtin.Int.intBits x<=64:=by
 have af:=of_decide_eq_true h;exact intBits_le_64 af.1 af.2
theorem int_int {C:Mo α->Prop}{f:Int->Int->Mo α}(ha:VR h ρ n a x)(hb:VR h ρ n b y)(h0:C no)(hc:∀p q t u,x=.int p t->y=.int q u->C (f p q)):C (match (generalizing:=false) a,b with
 |.int x,.int y=>f x y
 |_,_=>no):=by
 induction a using V.casesOn with
 |int p =>
  induction b using V.casesOn with
  |int q=>exact oE ha λt h1=>oE hb λu h2=>hc p q t u h1 h2
  |_=>exact h0
 |_=>exact h0
theorem Vb (h:a+4*d+40<=900):a+100<1000:=by lia
theorem S8 (ht:au.given.tree=none)(rm:Rm A fs d)(hw:W w.params K fs ρ σ s.heap)(op:uc)(ha:VR s.heap ρ σ.length a x)(hb:VR s.heap ρ σ.length b y):aL (model au w) A w.params K fs L X F ρ σ s EX (gW op a b) (binaryOp op x y) RV:=by
 have C:∀{op:uc} {f:Int->Int->Mo V},(∀p q t u,aL (model au w) A w.params K fs L X F ρ σ s EX (f p q) (binaryOp op (.int p t) (.int q u)) RV)->aL (model au w) A w.params K fs L X F ρ σ s EX (match (generalizing:=false) a,b with
  |.int x,.int y=>f x y
  |_,_=>no) (binaryOp op x y) RV:=λ{op f} h=>int_int (C:=λm=>aL (model au w) A w.params K fs L X F ρ σ s EX m (binaryOp op x y) RV) ha hb .no λp q t u h1 h2=>by
  rw[h1,h2];exact h p q t u
 induction op using Operator.casesOn with
 |Add=>exact TS rm hw ha hb
 |Sub=>exact C λp q t u=>.now (λZ Z e=>dU e) hw λQ E h=>PyProof.Rows.sub_int (h _ _ ⟨_,rfl⟩)
 |Mult =>
  refine C (f:=λx y=>match small x||small y with|true=>rt (V.int (x*y))|false=>no) λp q t u=>?_;induction hs:small p||small q with
  |false=>exact .no
  |true =>
   refine .now (λZ Z e=>dU e) hw λQ E h=>PyProof.Rows.mul_int (h _ _ ⟨_,rfl⟩) ?_;exact(Bool.or_eq_true_iff.mp hs).elim (λhs=>.of_left (HJ hs)) λhs=>.of_right (HJ hs)
 |FloorDiv =>
  refine C (f:=λx y=>if y=0 then no else rt (V.int (x.fdiv y))) λp q t u=>?_;by_cases hz:q=0
  ·rw[if_pos hz];exact .no
  ·rw[if_neg hz];refine .now (λZ Z e=>dU e) hw λQ E h=>PyProof.Rows.floordiv_int hz (h _ _ ⟨_,rfl⟩) (.inr ?_);obtain⟨ah,l,hf⟩:∃ah l,fs=ah::l:=by
    clear hw;induction fs using aQ with
    |nil=>exact absurd rfl rm.ne
    |cons e l=>exact(d7 e l rfl)
   have fo:=(hw.fr.ff ah (by rw[hf];exact .head _)).1;refine PylongRoom.of hw.ba.lim ?_ (SeerAt.of hw.ba.noSeer ht (by rw[rm.fr,hf]) fo.gen fo.co fo.b fo.g);exact Vb rm.dep
 |Mod =>
  refine C (f:=λx y=>if y=0 then no else rt (V.int (x.fmod y))) λp q t u=>?_;by_cases hz:q=0
  ·rw[if_pos hz];exact .no
  ·rw[if_neg hz];exact .now (λZ Z e=>dU e) hw λQ E h=>PyProof.Rows.mod_int' hz (h _ _ ⟨_,rfl⟩)
 |Pow =>
  refine C (f:=λx y=>match small x&&decide (0<=y/\y<=1000000) with|true=>rt (V.int (x^y.toNat))|false=>no) λp q t u=>?_;induction hs:small p&&decide (0<=q/\q<=1000000) with
  |false=>exact .no
  |true =>
   refine oA (jP.mp hs) ?_;rintro h1 h2;have h2:=of_decide_eq_true h2;obtain h1:= of_decide_eq_true h1;exact .now (λZ Z e=>dU e) hw λQ E h=>PyProof.Rows.pow_int_small h2.1 h2.2 (by clear C;lia) (h _ _ ⟨_,rfl⟩)
 |_=>exact .no
end
open PySem.SeqAt
theorem JP (a b:Int):decide (a=b)=(a==b):=by by_cases h:a=b<;>simp[h]
set_option tactic.hygienic true in
theorem BZ (hf:∀v u x c,f v u=some c->VR h ρ n v x->VR h ρ n u x->c=true):∀(l r:List V) (xs:List az) (c:Bool),lI f l r=some c->aW h ρ n l xs->aW h ρ n r xs->c=true
 |[],[],_,_,e,_,_=>by(refine aT e ?_);rfl
 |a::l,b::r,xs,c,e,p,q=>by
  dsimp only[lI]at e;refine cj p ?_;clear p;rintro y t rfl p1 p2;refine cj q ?_;rintro y' t' e' q1 q2;cases e';induction h1:f a b with
  |none=>rw[h1]at e;exact nS e
  |some x=>induction h2:lI f l r with
   |none=>rw[h1,h2]at e;exact nS e
   |some y =>
    rw[h1,h2]at e;(refine aT e ?_);rw[hf _ _ _ _ h1 p1 q1,BZ hf l r t y h2 p2 q2];rfl
 |[],b::r,xs,c,e,p,q=>by
  subst p;refine cj q ?_;rintro y' t' e' q1 q2;exact nC gq e' rfl
 |b::r,[],xs,c,e,p,q=>by
  subst q;refine cj p ?_;rintro y' t' e' q1 q2;exact nC gq e' rfl
inductive mD (k:Nat):V->V->Bool->Prop
 |nn:mD k .none .none true
 |bb (a b:Bool):mD k (.bool a) (.bool b) (a==b)
 |ii (a b:Int):mD k (.int a) (.int b) (decide (a=b))
 |ss (a b:ak):mD k (.str a) (.str b) (bg a b)
 |tt (a b:List V) (c:Bool) (h:lI (jf k) a b=some c):mD k (.tup a) (.tup b) c
 |ns (b:ak):mD k .none (.str b) false
 |sn (b:ak):mD k (.str b) .none false
 |nt (b:List V):mD k .none (.tup b) false
 |tn (b:List V):mD k (.tup b) .none false
 |ni (b:Int):mD k .none (.int b) false
 |Ai (b:Int):mD k (.int b) .none false
theorem CN (e:jf (k+1) v u=some c):mD k v u c:=by
 induction v using V.casesOn with
 |none =>
  induction u using V.casesOn with
  |none=>exact aT e .nn
  |str b=>exact aT e (.ns b)
  |tup b=>exact aT e (.nt b)
  |int b=>exact aT e (.ni b)
  |_=>exact nS e
 |bool a =>
  induction u using V.casesOn with
  |bool b=>exact aT e (.bb a b)
  |_=>exact nS e
 |int a =>
  induction u using V.casesOn with
  |int b=>exact aT e (.ii a b)
  |none=>exact aT e (.Ai a)
  |_=>exact nS e
 |str a =>
  induction u using V.casesOn with
  |str b=>exact aT e (.ss a b)
  |none=>exact aT e (.sn a)
  |_=>exact nS e
 |tup a =>
  induction u using V.casesOn with
  |tup b=>exact .tt a b c e
  |none=>exact aT e (.tn a)
  |_=>exact nS e
 |_=>exact nS e
theorem Ka {h:bf}{a b:ax}{ys zs:Array az}{m n:Nat}(e:dn a=dn b)(p:h.get? a=some {cls:=.type "tuple",data:=.seq ys m})(q:h.get? b=some {cls:=.type "tuple",data:=.seq zs n}):ys=zs:=by
 rw[Value.ref.inj e,q]at p;exact(Data.seq.inj (congrArg Obj.data (jR p))).1.symm
theorem I5:∀(k:Nat) (v u:V) (x:az) (c:Bool),jf k v u=some c->VR h ρ n v x->VR h ρ n u x->c=true
 | 0,_,_,_,_,e,_,_=>nS e
 |k+1,v,u,x,c,e,p,q=>by
  obtain h:= CN e;clear e;revert p q;induction h with
  |nn=>exact λZ Z=>rfl
  |bb a b=>rintro rfl q;exact beq_iff_eq.mpr (Value.bool.inj q)
  |ii a b=>rintro⟨_,rfl⟩ ⟨_,q⟩;exact decide_eq_true (Value.int.inj q).1
  |ss a b=>rintro⟨_,rfl⟩ ⟨_,q⟩;exact eh.mpr (Value.str.inj q).1
  |tt a b c h =>
   refine qy ?_;rintro a1 ys c1 rfl p1 p2;refine qy ?_;rintro a' M4 Nu q0 q1 q2;obtain z:= Ka q0 p1 q1;subst z;exact BZ (I5 k) _ _ _ _ h p2 q2
  |ns=>rintro rfl ⟨_,q⟩;exact nC oK q rfl
  |sn=>rintro⟨_,p⟩ rfl;exact nC oK p rfl
  |nt=>rintro rfl ⟨_,_,_,q,_⟩;exact nC oK q rfl
  |tn=>rintro⟨_,_,_,p,_⟩ rfl;exact nC oK p rfl
  |ni=>rintro rfl ⟨_,q⟩;exact nC oK q rfl
  |Ai=>rintro⟨_,p⟩ rfl;exact nC oK p rfl
set_option tactic.hygienic true in
theorem y0 (hf:∀v u x y c,f v u=some c->VR s.heap ρ n v x->VR s.heap ρ n u y->EqAt A s x y c):∀(l r:List V) (xs ys:List az) (c:Bool),lI f l r=some c->aW s.heap ρ n l xs->aW s.heap ρ n r ys ->
 ∃e:Nat->Bool,(∀j (h1:j<xs.length) (h2:j<ys.length),EqAt A s xs[j] ys[j] (e j))/\c=((C8 (min xs.length ys.length)).all e&&xs.length==ys.length)
 |[],[],xs,ys,c,e,p,q=>by
  subst p;subst q;(refine aT e ?_);exact(aP (λZ=>true) (λj h1 Z=>absurd h1 (qb _)) rfl)
 |a::l,b::r,xs,ys,c,e,p,q=>by
  dsimp only[lI]at e;refine cj p ?_;clear p;rintro y t rfl p1 p2;refine cj q ?_;clear q;rintro y' t' rfl q1 q2;induction h1:f a b with
  |none=>rw[h1]at e;exact nS e
  |some c1=>induction h2:lI f l r with
   |none=>rw[h1,h2]at e;exact nS e
   |some c2 =>
    rw[h1,h2]at e;(refine aT e ?_);refine aO (y0 hf l r t t' c2 h2 p2 q2) ?_;rintro g g1 g2;refine(aP (λ| 0=>c1|j+1=>g j) (λj i1 i2=>?_) ?_)
    ·induction j using eO with
     |zero=>exact hf _ _ _ _ _ h1 p1 q1
     |succ j=>exact g1 j (ry i1) (ry i2)
    ·rw[g2];simp only[dJ,Nat.succ_min_succ,Nat.add_min_add_right,List.range_succ_eq_map,lY,List.all_map,Bool.and_assoc]
     congr 2
     induction hq:(t.length==t'.length)<;>simp_all
 |[],b::r,xs,ys,c,e,p,q=>by
  subst p;refine cj q ?_;clear q;rintro y' t' rfl q1 q2;(refine aT e ?_);exact(aP (λZ=>true) (λj h1 Z=>absurd h1 (qb _)) (by simp))
 |b::r,[],xs,ys,c,e,p,q=>by
  subst q;refine cj p ?_;clear p;rintro y' t' rfl q1 q2;(refine aT e ?_);exact(aP (λZ=>true) (λj Z h1=>absurd h1 (qb _)) (by simp))
theorem iG {h:bf}{a:ax}{ys:Array az}{k:Nat}(e:h.get? a=some {cls:=.type "tuple",data:=.seq ys k}):h.IsTuple a ys:=(DT _ e rfl k rfl)
theorem fR {h:bf}{a:ax}{ys:Array az}{k:Nat}(e:h.get? a=some {cls:=.type "list",data:=.seq ys k}):h.IsList a ys:=(DT _ e rfl k rfl)
theorem wa {xs ys:Array az}{e:Nat->Bool}(h:∀j (h1:j<xs.toList.length) (h2:j<ys.toList.length),EqAt A s xs.toList[j] ys.toList[j] (e j)):∀j (h1:j<xs.size) (h2:j<ys.size),EqAt A s xs[j] ys[j] (e j):=λj h1 h2=>by
 obtain af:= h j (by simpa using h1) (by simpa using h2);simpa using af
theorem Dp:∀(k:Nat) {A} {s} {ρ} {n},A.units+k<cLine->∀v u x y c,jf k v u=some c->VR s.heap ρ n v x->VR s.heap ρ n u y->EqAt A s x y c
 | 0,_,_,_,_,_,_,_,_,_,_,e,_,_=>nS e
 |k+1,A,s,ρ,n,hu,v,u,x,y,c,e,p,q=>by
  obtain ow:A.units<cLine:=by lia
  obtain h:= CN e;clear e;revert p q;induction h with
  |nn=>rintro rfl rfl;exact .same _
  |bb a b=>rintro rfl rfl;exact .bool_bool _ _
  |ii a b=>rintro⟨_,rfl⟩ ⟨_,rfl⟩;rw[JP];exact .int_int _ _ _ _
  |ss a b=>rintro⟨_,rfl⟩ ⟨_,rfl⟩;rw[vJ];exact .str_str _ _ _ _
  |tt a b c e =>
   refine qy ?_;rintro a ys c1 rfl p1 p2;refine qy ?_;rintro a' M4 Nu rfl q1 q2;by_cases gJ:a=a'
   ·rw[BZ (I5 k) _ _ _ _ e p2 (Ka (congrArg dn gJ) p1 q1▸q2),gJ];exact .same _
   ·refine aO (y0 (A:=A.in1) (λv u x y c=>Dp k (A:=A.in1) (by show A.units+1+k<cLine;lia) v u x y c) _ _ _ _ _ e p2 q2) ?_;rintro g g1 g2;rw[g2];skip;exact .of_refs gJ (.tuples (iG p1) (iG q1) ow (wa g1))
  |ns=>rintro rfl ⟨_,rfl⟩;exact .none_str _ _
  |sn=>rintro⟨_,rfl⟩ rfl;exact .str_none _ _
  |nt=>rintro rfl ⟨_,_,_,rfl,q1,_⟩;exact .none_tuple (iG q1) ow
  |tn=>rintro⟨_,_,_,rfl,q1,_⟩ rfl;exact .tuple_none (iG q1) ow
  |ni=>rintro rfl ⟨_,rfl⟩;exact .none_int _ _
  |Ai=>rintro⟨_,rfl⟩ rfl;exact .int_none _ _
theorem Vj (k:Nat)(hu:A.units+k<cLine)(v u:V)(x y:az)(c:Bool)(e:jf k v u=some c)(p:VR s.heap ρ n v x)(q:VR s.heap ρ n u y):RcAt A s x y c/\RcNeAt A s x y (!c):=by
 induction k using eO with
 |zero=>exact nS e
 |succ k =>
  obtain ow:A.units<cLine:=by lia
  obtain h:= CN e;clear e;revert p q;induction h with
  |nn=>rintro rfl rfl;exact⟨.none_none,.none_none⟩
  |bb a b=>rintro rfl rfl;exact⟨.bool_bool _ _,.bool_bool _ _⟩
  |ii a b=>rintro⟨_,rfl⟩ ⟨_,rfl⟩;rw[JP];exact⟨.int_int _ _ _ _,.int_int _ _ _ _⟩
  |ss a b=>rintro⟨_,rfl⟩ ⟨_,rfl⟩;rw[vJ];exact⟨.str_str _ _ _ _,.str_str _ _ _ _⟩
  |tt a b c e =>
   refine qy ?_;rintro a ys c1 rfl p1 p2;refine qy ?_;rintro a' M4 Nu rfl q1 q2;refine aO (y0 (A:=A.in1) (λv u x y c=>Dp k (A:=A.in1) (by show A.units+1+k<cLine;lia) v u x y c) _ _ _ _ _ e p2 q2) ?_;rintro g g1 g2;rw[g2];skip;exact⟨.tuples (iG p1) (iG q1) ow (wa g1),.tuples (iG p1) (iG q1) ow (wa g1)⟩
  |ns=>rintro rfl ⟨_,rfl⟩;exact⟨.none_str _ _,.none_str _ _⟩
  |sn=>rintro⟨_,rfl⟩ rfl;exact⟨.str_none _ _,.str_none _ _⟩
  |nt=>rintro rfl ⟨_,_,_,rfl,q1,_⟩;exact⟨.none_tuple (iG q1) ow,.none_tuple (iG q1) ow⟩
  |tn=>rintro⟨_,_,_,rfl,q1,_⟩ rfl;exact⟨.tuple_none (iG q1) ow,.tuple_none (iG q1) ow⟩
  |ni=>rintro rfl ⟨_,rfl⟩;exact⟨.none_int _ _,.none_int _ _⟩
  |Ai=>rintro⟨_,rfl⟩ rfl;exact⟨.int_none _ _,.int_none _ _⟩
theorem yc:∀(l:List α) (r:List β),fb l r=true↔l.length=r.length
 |[],[]=>⟨λZ=>rfl,λZ=>rfl⟩
 |[],_::_=>⟨λh=>by exact fT h,λh=>absurd h.symm (Nat.succ_ne_zero _)⟩
 |_::_,[]=>⟨λh=>by exact fT h,λh=>absurd h (Nat.succ_ne_zero _)⟩
 |_::l,_::r=>⟨λh=>congrArg (·+1) ((yc l r).mp h),λh=>(yc l r).mpr (yk h)⟩
section
variable {au:cB}{w:bw}{K:bz}{P:PE}{sf:Jb->Mo An}{A:bZ}{fs:List a9}{L:ax}{ah:a9}{U:Fm}{ρ:Nat->ax}{σ:Sg}{s:aN}{X F:List ax}{EX:bf->(Nat->ax)->Nat->Prop}{d:Nat}
theorem C7 (e:aX o σ=some (r,aj)):∃a,o=some a/\r=.ok a/\aj=σ:=by
 induction o with
 |none=>exact nS e
 |some a=>(refine dX e ?_;clear e r aj);exact(cO a rfl rfl rfl)
theorem Ut (rm:Rm A fs d)(hw:W w.params K fs ρ σ s.heap)(ha:VR s.heap ρ σ.length a x)(hb:VR s.heap ρ σ.length b y)(e:Af a b σ=some (r,aj)):∃c,r=.ok c/\aj=σ/\RcAt A s x y c/\RcNeAt A s x y (!c):=by
 obtain hu:=rm.un;obtain F: aX (jf 8 a b) σ=some (r,aj)->∃c,r=.ok c/\aj=σ/\RcAt A s x y c/\RcNeAt A s x y (!c):=λe=>cy (C7 e) λc hc h1 h2=>cO c h1 h2 (Vj 8 (by unfold cLine;lia) _ _ _ _ _ hc ha hb);induction a using V.casesOn with
 |ref i =>
  induction b using V.casesOn with
  |ref j =>
   clear F;refine oA ha ?_;clear ha;rintro hi rfl;refine oA hb ?_;clear hb;rintro hj rfl;replace e:(bd (gt (listAt i)) λl=>bd (gt (listAt j)) λr=>aX (pK l r)) σ=some (r,aj):=e;unfold bd gt at e;induction h1:listAt i σ with
   |none=>rw[h1]at e;exact nS e
   |some l =>
    rw[h1]at e;induction h2:listAt j σ with
    |none=>dsimp only at e;rw[h2]at e;exact nS e
    |some l' =>
     dsimp only at e;rw[h2]at e;refine cy (C7 e) ?_;rintro c hc rfl rfl;refine iq (lh hw h1) ?_;rintro _ ys k1 e1 e2;refine iq (lh hw h2) ?_;rintro _ zs k2 e3 e4;refine(cO c rfl rfl ?_);obtain l1:=e2.len;obtain l2:=e4.len;simp only[Hp]at l1 l2;unfold pK at hc;induction hl:fb l l' with
     |true =>
      rw[hl]at hc;obtain hl:= (yc _ _).mp hl;have dv:ys.size=zs.size:=by rw[l1,l2,hl]
      refine aO (y0 (A:=A.in1) (λv u x y c=>Dp 8 (A:=A.in1) (by show A.units+1+8<cLine;unfold cLine;lia) v u x y c) _ _ _ _ _ hc e2 e4) ?_;rintro g g1 g2;obtain g3: c=(C8 ys.size).all g:=by
       rw[g2];simp only[Hp,dv,Nat.min_self,beq_self_eq_true,Bool.and_true]
      rw[g3];exact⟨.lists (fR e1) (fR e3) dv rm.room (wa g1),.lists (fR e1) (fR e3) dv rm.room (wa g1)⟩
     |false =>
      rw[hl]at hc;(refine aT hc ?_);obtain dv:(ys.size != zs.size)=true:=by
       rw[l1,l2,bne_iff_ne];intro z;rw[(yc l l').mpr z]at hl;exact tF hl
      exact⟨.lists_lengths (fR e1) (fR e3) dv rm.room,.lists_lengths (fR e1) (fR e3) dv rm.room⟩
  |_=>exact F e
 |_=>exact F e
end
theorem HH:∀(a b:List Nat),zd a b=decide (a<b)
 |[],[]=>rfl
 |[],_::_=>(decide_eq_true (List.nil_lt_cons ..)).symm
 |_::_,[]=>(decide_eq_false (List.not_lt_nil _)).symm
 |a::l,b::r=>by
  show(match cE a b with
  |true=>true
  |false=>match bx a b with
   |true=>zd l r
   |false=>false)=_
  by_cases h:a<b
  ·obtain af: cE a b=true:=by simp[yP,h]
   rw[af];simp[Hj,h]
  ·obtain af: cE a b=false:=by
    induction q:cE a b with
    |false=>rfl
    |true=>exact absurd (yP.mp q) h
   rw[af];dsimp only;by_cases h2:a=b
   ·obtain af: bx a b=true:=by simp[h2]
    rw[af];simp[Hj,h,h2,HH l r]
   ·obtain af: bx a b=false:=by
     induction q:bx a b with
     |false=>rfl
     |true=>exact absurd (eS q) h2
    rw[af];simp[Hj,h,h2]
set_option tactic.hygienic true in
theorem H2 (x:List Nat):∀(l:List Nat),subIn x l=true↔∃i,i+x.length<=l.length/\x=(l.drop i).take x.length
 |[]=>by
  dsimp only[subIn];rw[rx,List.prefix_nil];constructor
  ·rintro rfl;exact(aP 0 (by simp) (by simp))
  ·rintro⟨i,h1,h2⟩;obtain af: x.length=0:=by simp at h1;rw[h1.2];rfl
   exact Hb.mp af
 |b::r=>by
  dsimp only[subIn];split
  ·rename_i h;rw[rx]at h;refine⟨λZ=>(aP 0 (by simpa using h.length_le) ?_),λZ=>rfl⟩;rw[rK];exact Hc.mp h
  ·rename_i h;rw[H2 x r];constructor
   ·rintro⟨i,h1,h2⟩;exact(aP (i+1) (by simp;lia) (by simpa using h2))
   ·rintro⟨i,h1,h2⟩;induction i using eO with
    |zero =>
     exfalso;obtain af:=Hc.mpr (by simpa using h2);rw[<- rx]at af;rw[af]at h;exact tF h
    |succ i=>exact(aP i (by simp at h1;lia) (by simpa using h2))
theorem Cc (x y:ak)(i:Nat):PH x y i=true↔y.cps.toList=(x.cps.toList.drop i).take y.cps.toList.length:=by
 unfold PH;rw[beq_iff_eq,<- Array.toList_inj,Array.toList_extract,List.extract_eq_take_drop];show _=_↔_;obtain af: i+y.length-i=y.cps.toList.length:=by
  show i+y.cps.size-i=_;simp
 rw[af];exact eq_comm
theorem H8 (x y:ak):subIn y.cps.toList x.cps.toList=!(Builtin.Str.occurrences x y 0 x.length 1).isEmpty:=by
 rw[BD,H2,StrLaws.found_iff];refine exists_congr λi=>?_;rw[Cc];refine and_congr ?_ Iff.rfl;show i+y.cps.toList.length<=x.cps.toList.length↔i+y.cps.size<=x.cps.size;simp
section
variable {au:cB}{w:bw}{K:bz}{P:PE}{sf:Jb->Mo An}{A:bZ}{fs:List a9}{L:ax}{ah:a9}{U:Fm}{ρ:Nat->ax}{σ:Sg}{s:aN}{X F:List ax}{EX:bf->(Nat->ax)->Nat->Prop}{d:Nat}
theorem BG:∀{l} {ss} {xs},mT l=some ss->aW h ρ n l xs->StrsAre xs ss
 |[],ss,xs,e,q=>by subst q;(refine aT e ?_);exact .nil
 |.str z::l,ss,xs,e,q=>by
  refine cj q ?_;clear q;rintro y r rfl ⟨t,rfl⟩ q2;dsimp only[mT]at e;refine aO (mO.mp e) ?_;clear e;rintro Zx e1 rfl;exact .cons _ _ (BG e1 q2)
 |.none::l,ss,xs,e,q=>by exact nS e
 |.bool _::l,ss,xs,e,q=>by exact nS e
 |.int _::l,ss,xs,e,q=>by exact nS e
 |.ref _::l,ss,xs,e,q=>by exact nS e
 |.fn _::l,ss,xs,e,q=>by exact nS e
 |.cls _::l,ss,xs,e,q=>by exact nS e
 |.bi _::l,ss,xs,e,q=>by exact nS e
 |.tup _::l,ss,xs,e,q=>by exact nS e
 |.fj _ _::l,ss,xs,e,q=>by exact nS e
 |.cm _::l,ss,xs,e,q=>by exact nS e
theorem QR (x:ak)(ss:List ak):ss.any (bg x)=ss.any (·==x):=by
 induction ss with
 |nil=>rfl
 |cons a l ih=>rw[List.any_cons,List.any_cons,ih,vJ];congr 1;exact BD.mpr ⟨λh=>beq_iff_eq.mpr (beq_iff_eq.mp h).symm,λh=>beq_iff_eq.mpr (beq_iff_eq.mp h).symm⟩
theorem BK (x:ak)(v:az):Value.isStrOf x v=v.isStr x:=by induction v<;>rfl
theorem IK (e:h.get? a=some (dictOf es k))(r:ki w.params h ρ n l es):h.MapOf (strKind au w) a (λx=>(es.find? (·.key.isStr x)).map (·.val)):=by
 refine⟨_,es.toArray,k,e,(dg rfl rfl rfl),rfl,λen he=>?_,λx=>?_⟩
 ·refine dc (r.k en (List.mem_toArray.mp he)) ?_;rintro x t h1 h2;refine(aP x ?_ ?_)
  ·rw[h1];exact strKind_is au w x t
  ·rw[h2];rfl
 ·show Option.map _ (es.toArray.find? λe=>Value.isStrOf x e.key)=_;rw[<- Array.find?_toList];simp only[BK]
theorem Vg (rm:Rm A fs d)(hw:W w.params K fs ρ σ s.heap)(ha:VR s.heap ρ σ.length a x)(hb:VR s.heap ρ σ.length b y)(e:Ar a b σ=some (r,aj)):∃c,r=.ok c/\aj=σ/\∀(Q:az->aN->Prop) (E:az->aN->Prop),(∀tk,Q (.bool c) {s with toks:=tk})->wpAny (model au w) A (compareOp .In x y) Q E s:=by
 induction a using V.casesOn with
 |str p =>
  induction b using V.casesOn with
  |str q =>
   refine oE ha ?_;clear ha;rintro t rfl;refine oE hb ?_;clear hb;rintro u rfl;(refine dX e ?_);exact(cO _ rfl rfl (λQ E h=>P.in_str (by rw[<- H8];exact h _)))
  |ref i =>
   refine oE ha ?_;clear ha;rintro t rfl;refine oA hb ?_;clear hb;rintro hi rfl;replace e:(match ay σ i with
    |some (.list l)=>(match mT l with
     |some ss=>some (Rs.ok (ss.any (bg p)),σ)
     |none=>none)
    |some (.dict l)=>some (.ok (lk p l).isSome,σ)
    |_=>none)=some (r,aj):=e
   induction hl:ay σ i with
   |none=>rw[hl]at e;exact nS e
   |some o =>
    rw[hl]at e;induction o using O.casesOn with
    |list l =>
     replace e:(match mT l with
      |some ss=>some (Rs.ok (ss.any (bg p)),σ)
      |none=>none)=some (r,aj):=e
     induction xo:mT l with
     |none=>rw[xo]at e;exact nS e
     |some ss =>
      rw[xo]at e;(refine dX e ?_);refine dc (hw.hr.ob i _ hl) ?_;rintro ys k e1 e2;refine(cO _ rfl rfl (λQ E h=>in_list_strs (vs:=ys.toList) ?_ (BG xo e2) (by rw[<- QR];exact h _)));exact fR e1
    |dict l =>
     (refine dX e ?_);refine dc (hw.hr.ob i _ hl) ?_;rintro es k e1 e2;refine(cO _ rfl rfl (λQ E h=>wpAny_in_of (strKind_is au w p t) ?_ (IK (au:=au) e1 e2) ?_))
     ·obtain af:= hw.hr.hi i hi;exact beq_eq_false_iff_ne.mpr λz=>by rw[z]at af;exact absurd af (by decide)
     ·induction hq:lk p l with
      |none=>have af:=h (s.toks+1);rw[hq]at af;rw[e2.z _ hq];exact af
      |some v =>
       refine aO (e2.s _ _ hq) ?_;rintro en h1 h2;obtain af:= h (s.toks+1);rw[hq]at af;rw[h1];exact af
    |_=>exact nS e
  |_=>exact nS e
 |_=>exact nS e
theorem dM (e:bd m f σ=some (r,aj)):(m σ=some (.exc,aj)/\r=.exc)\/∃a iP,m σ=some (.ok a,iP)/\f a iP=some (r,aj):=by
 unfold bd at e;induction hm:m σ with
 |none=>rw[hm]at e;exact nS e
 |some p =>
  obtain⟨r1,bj⟩:=p;rw[hm]at e;induction r1 with
  |exc=>(clear hm;refine i7 e ?_;clear e r bj);exact .inl ⟨rfl,rfl⟩
  |ok a=>exact .inr (cF a bj rfl e)
theorem QH (e:isNone v=some c)(q:VR h ρ n v x):(x==.none)=c:=by
 induction v using Zq.V.casesOn<;>cases e<;>dsimp only[VR]at q
 ·subst q;rfl
 ·subst q;rfl
 ·refine oE q ?_;clear q;rintro _ rfl;rfl
 ·refine oE q ?_;clear q;rintro _ rfl;rfl
 ·refine oA q ?_;clear q;rintro _ rfl;rfl
 ·refine jI q ?_;clear q;rintro _ _ _ rfl _;rfl
 ·refine aO q ?_;clear q;rintro _ rfl _;rfl
noncomputable def xl (au:cB)(w:bw)(A:bZ)(s:aN)(op:mw)(x y:az)(c:Bool):Prop:=∀(Q:az->aN->Prop) (E:az->aN->Prop),(∀tk,Q (.bool c) {s with toks:=tk})->wpAny (model au w) A (compareOp op x y) Q E s
noncomputable def Aw (σ:Sg)(m:Mo Bool)(P:Bool->Prop):Prop:=∀r aj,m σ=some (r,aj)->∃c,r=.ok c/\aj=σ/\P c
theorem Aw.no {P:Bool->Prop}:Aw σ no P:=λr aj e=>nS e
theorem Aw.rt {P:Bool->Prop}{c:Bool}(h:P c):Aw σ (rt c) P:=λr aj e=>dX (motive:=λr aj=>∃c,r=.ok c/\aj=σ/\P c) e (cO c rfl rfl h)
theorem Aw.aX {P:Bool->Prop}{o:Option Bool}(h:∀c,o=some c->P c):Aw σ (aX o) P:=λr aj e=>cy (C7 e) λc h1 h2 h3=>cO c h2 h3 (h c h1)
theorem Aw.mono {P Q:Bool->Prop}(a:Aw σ m P)(h:∀c,P c->Q c):Aw σ m Q:=λr aj e=>cy (a r aj e) λc h1 h2 h3=>cO c h1 h2 (h c h3)
theorem Aw.neg {P Q:Bool->Prop}(a:Aw σ m P)(h:∀c,P c->Q (!c)):Aw σ (bd m λr=>Zq.rt (!r)) Q:=λr aj e=>(dM e).elim (λz=>cy (a _ _ z.1) λc h1 Z Z=>nC Zq.Rs.ctorIdx h1 rfl)
 (cK λc τ e1 e2=>cy (a _ _ e1) λc' h1 h2 h3=>Aw.rt (P:=Q) (by have z:=Rs.ok.inj h1;rw[z];exact h c' h3) r aj (h2▸e2))
theorem Rv (rm:Rm A fs d)(hw:W w.params K fs ρ σ s.heap)(op:mw)(ha:VR s.heap ρ σ.length a x)(hb:VR s.heap ρ σ.length b y):Aw σ (fZ op a b) (xl au w A s op x y):=by
 obtain E1:Aw σ (Af a b) λc=>RcAt A s x y c/\RcNeAt A s x y (!c):=λr aj e=>Ut rm hw ha hb e;obtain I1:Aw σ (Ar a b) (xl au w A s .In x y):=λr aj e=>Vg rm hw ha hb e;have N1:∀c,isNone a=some c->(x==.none)=c:=λc h=>QH h ha;obtain C1:∀{op:mw} {f:Int->Int->Bool},(∀p q t u,xl au w A s op (.int p t) (.int q u) (f p q))->Aw σ (match (generalizing:=false) a,b with
  |.int x,.int y=>rt (f x y)
  |_,_=>no) (xl au w A s op x y):=λ{op f} h=>int_int (C:=λm=>Aw σ m (xl au w A s op x y)) ha hb Aw.no λp q t u h1 h2=>Aw.rt (by rw[h1,h2];exact h p q t u)
 induction op using CmpOp.casesOn with
 |Eq=>exact E1.mono λc h Q E k=>h.1 au w E Q (k s.toks)
 |NotEq=>exact E1.neg λc h Q E k=>h.2 au w E Q (k s.toks)
 |Lt=>exact C1 λp q t u Q E h=>PyProof.Rows.lt_int (h s.toks)
 |Gt=>exact C1 λp q t u Q E h=>PyProof.Rows.gt_int (h s.toks)
 |GtE=>exact C1 λp q t u Q E h=>PyProof.Rows.ge_int (h s.toks)
 |LtE =>
  clear E1 I1 N1 C1;induction a using V.casesOn with
  |int p =>
   induction b using V.casesOn with
   |int q=>exact .rt λQ E h=>oE ha λt h1=>oE hb λu h2=>by rw[h1,h2];exact PyProof.Rows.le_int (h s.toks)
   |_=>exact .no
  |str p =>
   induction b using V.casesOn with
   |str q=>exact .rt λQ E h=>oE ha λt h1=>oE hb λu h2=>by rw[h1,h2];exact P.le_str (by have af:=h s.toks;rwa [HH]at af)
   |_=>exact .no
  |_=>exact .no
 |Is =>
  clear E1 I1 C1;induction b using V.casesOn with
  |none=>exact .aX λc h1 Q E h=>by rw[show y=.none from hb];exact is_none (by rw[N1 c h1];exact h s.toks)
  |_=>exact .no
 |IsNot =>
  clear E1 I1 C1;induction b using V.casesOn with
  |none=>exact(Aw.aX N1).neg λc h1 Q E h=>by rw[show y=.none from hb];exact isNot_none (by rw[h1];exact h s.toks)
  |_=>exact .no
 |In=>exact I1
 |NotIn =>
  refine I1.neg λc h1 Q E h=>?_;obtain q:= h1 (λv s'=>∃tk,v=.bool c/\s'={s with toks:=tk}) E λtk=>(aP tk rfl rfl);obtain q: wpAny (model au w) A (contains y x) (λb s'=>∃tk,CE b=.bool c/\s'={s with toks:=tk}) E s:=λΓ p YZ=>by
   obtain z: Sem.wp _ _ (contains y x>>=λb=>(pure (CE b):Sem az)) _ _ _ _:=q Γ p YZ;rw[Sem.wp_bind']at z;exact z
  refine aF (ql q (λb s' z=>?_) λZ Z z=>z);refine aO z ?_;clear z;rintro tk z1 rfl;rw[Value.bool.inj z1];exact bq (h tk)
theorem CP (rm:Rm A fs d)(hw:W w.params K fs ρ σ s.heap)(op:mw)(ha:VR s.heap ρ σ.length a x)(hb:VR s.heap ρ σ.length b y):aL (model au w) A w.params K fs L X F ρ σ s EX (fZ op a b) (compareOp op x y) (λZ Z Z c v=>v=.bool c):=by
 intro r aj e Q E hq;refine cy (Rv (au:=au) rm hw op ha hb r aj e) ?_;rintro c rfl rfl h;exact h Q E λtk=>(hq ρ {s with toks:=tk} hw (.refl ..) rfl rfl).1 c rfl _ rfl
end
theorem J6:∀{l:List α} {i},ay l i=l[i]?
 |[],i=>rfl
 |_::_,0=>rfl
 |_::l,i+1=>J6 (l:=l) (i:=i)
set_option tactic.hygienic true in
theorem yN (e:place k n=some j):seqIndex? k n=some j/\-(2^63)<=k/\k<2^63/\j<n:=by
 unfold place at e;split at e
 ·rename_i hf;obtain hf:=dA hf;unfold seqIndex?;split at e
  ·rename_i i;split at e
   ·rename_i hb;obtain hb:=yP.mp hb;cases e;have h1:¬((lq j)<0):=by simp
    simp only[h1,if_false];obtain h0:=rD _;obtain gY: lq j<(n:Int):=by show(j:Int)<n;lia
    refine(pq ?_ ?_ ?_ hb)
    ·rw[if_pos (by simp[h0,gY]<;>lia)];rfl
    ·obtain af: (0:Int)<=2^63:=by decide
     lia
    ·obtain af: lq j<16777216+1:=by show(j:Int)<_;lia
     obtain h2:(16777217:Int)<=2^63:=by decide
     lia
   ·exact nS e
  ·rename_i i;split at e
   ·rename_i hb;obtain hb:=dA hb;(refine aT e ?_);obtain h1:=Bf i;simp only[h1,if_true];obtain h2:=ED hb;rw[h2];refine(pq ?_ ?_ ?_ (Nat.sub_lt (fK (Ce i) hb) (Ce i)))
    ·rw[if_pos (by simp;lia)];rfl
    ·obtain h2:(16777217:Int)<=2^63:=by decide
     lia
    ·obtain af: (0:Int)<=2^63:=by decide
     lia
   ·exact nS e
 ·exact nS e
section
variable {au:cB}{w:bw}{K:bz}{P:PE}{sf:Jb->Mo An}{A:bZ}{fs:List a9}{L:ax}{ah:a9}{U:Fm}{ρ:Nat->ax}{σ:Sg}{s:aN}{X F:List ax}{EX:bf->(Nat->ax)->Nat->Prop}{d:Nat}
set_option tactic.hygienic true in
theorem OL (hl:s.heap.IsList l items)(hp:place k items.size=some j)(hx:items[j]?=some x)(h:Q x s):wpAny (model au w) A (getItem (.ref l) (.int k t)) Q E s:=by
 refine nA (yN hp) ?_;rintro h1 h2 h3 h4;unfold seqIndex? at h1;by_cases h0:k<0
 ·simp only[h0,if_true]at h1;split at h1
  ·rename_i hh;simp only[cc,decide_eq_true_eq]at hh;(revert hx;refine aT h1 ?_;intro hx);exact wpAny_getItem_list_neg hl h0 (by lia) h2 hx h
  ·exact nS h1
 ·simp only[h0,if_false]at h1;split at h1
  ·(revert hx;refine aT h1 ?_;intro hx);exact wpAny_getItem_list hl (by lia) h3 hx h
  ·exact nS h1
theorem OQ {l:ax}{items:Array az}{k:Int}{t:Tok}{j n:Nat}{v:az}{Q:Unit->aN->Prop}{E:az->aN->Prop}(ho:s.heap.get? l=some {cls:=.type "list",data:=.seq items n})(hp:place k items.size=some j)
 (h:Q () {s with heap:=s.heap.update l (Obj.mapSeq (·.setIfInBounds j v))}):wpAny (model au w) A (setItem (.ref l) (.int k t) v) Q E s:=by
 refine nA (yN hp) ?_;rintro h1 h2 h3 h4;obtain hl:s.heap.IsList l items:=(DT _ ho rfl n rfl);obtain hx:=Array.getElem?_eq_getElem h4;skip;refine fy ?_;refine aF (wpAny_sequenceKey hl.typeIs (by decide) ?_);refine aF (wpAny_callSpecial?_slot (name:=yx "__setitem__") hl.typeIs slot_list_setitem
  (wpAny_call_entry slot_list_setitem hl.typeIs entry_list_setitem ?_ (args_list_setitem _ _ _)))
 show wpAny _ _ (Builtin.List.listSubscript? (.int k t)>>=_) _ _ s;refine aF (wpAny_listSubscript_int ?_ ?_)
 ·show(decide _&&decide _)=true;skip;lia
 obtain fin:∀{f:Unit->Sem Fin},f ()=ret .none->wpAny (model au w) A.in1 (setSeqItemAt l j v>>=f) (λfin s'=>∃r,fin=.done (.ret r)/\wpAny (model au w) A (pure ()) Q E s') (λe s'=>E e s') s:=λ{f} hf =>
  aF (wpAny_setSeqItemAt ho rfl (by rw[hf];exact bq (aP (.none) rfl (bq h))))
 clear h2 h3 hp;induction k with
 |ofNat i =>
  obtain af: i=j:=by
   unfold seqIndex? at h1;have h0:¬(lq i)<0:=by simp
   simp only[h0,if_false]at h1;split at h1
   ·exact jR h1
   ·exact nS h1
  subst af;refine aF (aF (wpAny_seqItemAt ho rfl (bq ?_)));rw[hx];exact fin rfl
 |negSucc i =>
  refine aF (aF ?_);refine aF (wpAny_seqItems ho rfl (bq (bq ?_)));rw[h1];simp only[jC,hx,Option.map_some];exact fin rfl
noncomputable def yD (e:Expr):Bool:=eD e false (y8:=λZ Z Z Z=>true)
theorem OU (h:yD slice=false):subscripted slice false o i=operate [o,i] (getItem o i):=by
 induction slice using cR with
 |Slice=>exact tF h
 |_=>rfl
theorem yC {m:Mo V}{T id:String}(qX:yD slice=false)(hT:s.TypeIs o T)(hl:typeLookup (.type T) "__getitem__"=pure (some (.builtin id)))(h:aL (model au w) A w.params K fs L X F ρ σ s EX m (getItem o i) R):aL (model au w) A w.params K fs L X F ρ σ s EX m (subscriptTail value slice o i) R:=by
 intro r aj e Q E hq;skip;refine aF ?_;rw[getitemInPython_of_ne hT.not_modules];refine aF (Jx hT hl ?_);obtain fin: wpAny (model au w) A (subscripted slice false o i) (λr mx=>wpAny (model au w) A (letTemporaryGo value o r>>=λZ=>pure r) Q E mx) E s:=by
  rw[OU qX];exact wpAny_operating (ql (h r aj e Q E hq) (λr mx pv=>aF (Bj (bq pv))) λZ Z x=>x)
 first
  |exact bq (aF fin)
  |exact aF (bq (aF fin))
  |exact aF fin
set_option tactic.hygienic true in
theorem Qf (e:rV x k=some c):∃z,(seqIndex? k x.length).bind (x.cps[·]?)=some z/\c=⟨#[z]⟩/\-(2^63)<=k/\k<2^63:=by
 unfold rV at e;split at e
 ·rename_i i hp;refine aO (mO.mp e) ?_;clear e;rintro z hz rfl;refine nA (yN hp) ?_;rintro h1 h2 h3 h4;refine(su z ?_ rfl h2 h3);rw[J6]at hz;obtain h1: seqIndex? k x.length=some i:=by simpa[l0] using h1
  rw[h1];simpa using hz
 ·exact nS e
theorem VR.sv (q:VR h ρ n a y)(e:je a=some x):∃t,y=.str x t:=by
 induction a using Zq.V.casesOn<;>cases e;exact q
theorem VR.iv (q:VR h ρ n a y)(e:lO a=some x):∃t,y=.int x t:=by
 induction a using Zq.V.casesOn<;>cases e;exact q
theorem VR.rv (q:VR h ρ n a y)(e:tu a=some x):x<n/\y=.ref (ρ x):=by
 induction a using Zq.V.casesOn<;>cases e;exact q
theorem aL.ay {β:Type}{M:gT}{t:Sem β}{R:Rl V β}{l:List V}{ys:List az}{k:Int}(hw:W w.params K fs ρ σ s.heap)(q:aW s.heap ρ σ.length l ys)
 (g:∀j v y,place k l.length=some j->ys[j]?=some y->VR s.heap ρ σ.length v y->∀(Q:β->aN->Prop) (E:az->aN->Prop),(∀b tk,R s.heap ρ σ.length v b->Q b {s with toks:=tk})->wpAny M A t Q E s) :
 aL M A w.params K fs L X F ρ σ s EX (qK l k) t R:=by
 unfold qK;induction hc:place k l.length with
 |none=>exact .no
 |some j =>
  induction hv:Zq.ay l j with
  |none=>exact .of_none (by rw[jC,hv];rfl)
  |some v =>
   refine aO (q.ay hv) ?_;rintro y hy hr;exact .now (a:=v) (λr aj e=>by rw[jC,hv]at e;exact dU e) hw (g j v y hc hy hr)
theorem J8 (a:IntsAre xs ns):aW h ρ n (ns.map V.int) xs:=by
 induction a with
 |nil=>rfl
 |cons m t r ih=>exact(ey _ _ rfl ⟨t,rfl⟩ ih)
theorem Si (rm:Rm A fs d)(hw:W w.params K fs ρ σ s.heap)(qX:yD slice=false)(ha:VR s.heap ρ σ.length a x)(hb:VR s.heap ρ σ.length b y):aL (model au w) A w.params K fs L X F ρ σ s EX (iu a b) (subscriptTail value slice x y) RV:=by
 have aa:∀{l:List V} {ys:Array az} {c:Nat} {r:ax} {k:Int} {u:Tok},s.heap.get? r=some {cls:=.type "list",data:=.seq ys c}->aW s.heap ρ σ.length l ys.toList ->
  aL (model au w) A w.params K fs L X F ρ σ s EX (qK l k) (subscriptTail value slice (.ref r) (.int k u)) RV:=λ{l ys c r k u} e1 e2=>by
  have hn: ys.size=l.length:=by have af:=e2.len;simpa using af
  exact yC qX (fR e1).typeIs slot_list_getitem.lookup (.ay hw e2 λj v y hc hy hr Q E h=>OL (fR e1) (by rw[hn];exact hc) (by simpa using hy) (h _ s.toks hr))
 induction a using Zq.V.casesOn with
 |str p =>
  refine oE ha ?_;clear ha;rintro t rfl;refine .aX λk ek=>?_;refine oE (hb.iv ek) ?_;clear hb;rintro u rfl;refine yC qX (typeIs_str s p t) Pa.lookup ?_;induction hc:rV p k with
  |none=>exact .no
  |some c =>
   refine qD (Qf hc) ?_;rintro z h1 rfl h2 h3;exact .now (λZ Z e=>dU e) hw λQ E h=>PySem.P.getItem_str (by simp;lia) h1 (h _ _ ⟨_,rfl⟩)
 |tup l =>
  refine dG ha ?_;clear ha;rintro t ys c rfl e1 e2;refine .aX λk ek=>?_;refine oE (hb.iv ek) ?_;clear hb;rintro u rfl;obtain hn: ys.size=l.length:=by have af:=e2.len;simpa using af
  refine yC qX (iG e1).typeIs slot_tuple_getitem.lookup (.ay hw e2 λj v y hc hy hr Q E h=>?_);refine nA (yN hc) ?_;rintro h1 h2 h3 h4;exact PyProof.Rows.getItem_tuple (iG e1) h2 h3 (by rw[hn];exact h1) (by simpa using hy) (h _ s.toks hr)
 |ref i =>
  refine oA ha ?_;clear ha;rintro hi rfl;induction b using Zq.V.casesOn with
  |int k =>
   refine oE hb ?_;clear hb;rintro u rfl;refine .gt λl hl=>?_;refine iq (lh hw hl) ?_;rintro _ ys c e1 e2;exact aa e1 e2
  |str k =>
   refine oE hb ?_;clear hb;rintro u rfl;refine .gt λl hl=>?_;refine iq (B9 hw hl) ?_;rintro _ es c e1 e2;obtain hm:=IK (au:=au) e1 e2;refine yC qX hm.typeIs slot_dict_getitem.lookup ?_;induction hc:lk k l with
   |none=>exact .no
   |some v =>
    refine aO (e2.s _ _ hc) ?_;rintro en h1 h2;exact .now (λZ Z e=>dU e) hw λQ E h=>wpAny_getItem_of (strKind_is au w k u) hm (by rw[h1];rfl) (h _ (s.toks+1) h2)
  |_=>exact .no
 |gG l =>
  refine iq ha ?_;rintro rfl ys c e1 e2;refine .aX λk ek=>?_;refine oE (hb.iv ek) ?_;rintro u rfl;exact aa e1 (J8 e2)
 |_=>exact .no
end
open PySem.Builtin.Str
noncomputable def eR (dflt:Nat)(lo:Option Int)(n:Nat):Nat:=match lo with
 |none=>dflt
 |some i=>bound i n
theorem IH (k:Int)(n:Nat):bound k n<=n:=by
 unfold bound;split
 ·exact HX _ _
 ·lia
theorem vV (k:Int)(n:Nat):max 0 (min (if k<0 then k+(n:Int) else k) (n:Int))=((bound k n:Nat):Int):=by
 induction k with
 |ofNat i =>
  obtain h1:¬(lq i<0):=by simp
  rw[if_neg h1];show max 0 (min (i:Int) (n:Int))=((min i n:Nat):Int);exact UC i n
 |negSucc i =>
  rw[if_pos (Bf i)];exact Us i n
theorem zg (dflt:Nat)(lo:Option Int)(h:dflt<=n):eR dflt lo n<=n:=by
 induction lo with
 |none=>exact h
 |some k=>exact IH k n
theorem idx_eq (lo hi:Option Int)(n:Nat):strSliceIndices lo hi 1 n=(C8 (eR n hi n-eR 0 lo n)).map (λk=>eR 0 lo n+k):=by
 obtain a0:=zg _ _ (fP _);have b0:eR n hi n<=n:=zg _ _ (bc _);obtain bb:∀m:Nat,m<=n->bound (m:Int) n=m:=λm hm=>nP hm;obtain e: strSliceIndices lo hi 1 n=strSliceIndices (some ((eR 0 lo n:Nat):Int)) (some ((eR n hi n:Nat):Int)) 1 n:=by
  unfold strSliceIndices;simp only[show((1:Int)>0)=True from by simp,if_true];rw[vV,vV];rw[bb _ a0,bb _ b0];induction lo<;>induction hi<;>simp only[eR,vV]<;>rfl
 rw[e];by_cases h:eR 0 lo n<=eR n hi n
 ·exact StrLaws.strSliceIndices_plain h b0
 ·obtain af:=vf (HY h);rw[af];unfold strSliceIndices;simp only[show((1:Int)>0)=True from by simp,if_true];rw[vV,vV];rw[bb _ a0,bb _ b0];unfold sliceRange;simp only[show((1:Int)>0)=True from by simp,if_true];rw[if_neg (by lia)];rfl
theorem Ik (x:ak)(lo hi:Option Int):(strSliceIndices lo hi 1 x.length).filterMap (x.cps[·]?)=(x.cps.toList.take (eR x.length hi x.length)).drop (eR 0 lo x.length):=by
 obtain b0: eR x.length hi x.length<=x.length:=zg _ _ (bc _);rw[idx_eq];by_cases h:eR 0 lo x.length<=eR x.length hi x.length
 ·obtain h2:= StrLaws.picks x.cps.toList (eR x.length hi x.length-eR 0 lo x.length) (eR 0 lo x.length) (by simp[l0]at b0 h ⊢;lia);rw[IB];simpa using h2
 ·obtain af:=vf (HY h);rw[af]
  symm
  rw[List.range_zero,List.map_nil,List.filterMap_nil,rz,pY];exact bC (Iw _ _) (HY h)
section
variable {au:cB}{w:bw}{K:bz}{P:PE}{sf:Jb->Mo An}{A:bZ}{fs:List a9}{L:ax}{ah:a9}{U:Fm}{ρ:Nat->ax}{σ:Sg}{s:aN}{X F:List ax}{EX:bf->(Nat->ax)->Nat->Prop}{d:Nat}
set_option tactic.hygienic true in
theorem P8 {x:ak}{t:Tok}{l u:Option (Int×Tok)}{Q:az->aN->Prop}(hz:fits x.cps.toList.length=true)(h:∀t' k,Q (.str (iz x (eR 0 (l.map (·.1)) x.cps.toList.length) (eR x.cps.toList.length (u.map (·.1)) x.cps.toList.length)) t') {s with toks:=k}):(sliceMade x t l u none).post Q s:=by
 have hn:x.cps.toList.length=x.length:=by simp[l0]
 obtain Fx:x.length<=sizeLine:=by rw[<- hn];exact dA hz
 skip;obtain ML:iz x (eR 0 (l.map (·.1)) x.cps.toList.length) (eR x.cps.toList.length (u.map (·.1)) x.cps.toList.length)=⟨((strSliceIndices (l.map (·.1)) (u.map (·.1)) 1 x.length).filterMap (x.cps[·]?)).toArray⟩:=by
  rw[Ik];unfold iz;rw[hn]
 rw[ML]at h;refine post_val_or_str ?_;obtain hle: (strSliceIndices (l.map (·.1)) (u.map (·.1)) 1 x.length).length<=x.length:=by
  have af:=sliceIndices_le (l.map (·.1)) (u.map (·.1)) x.length;exact af
 split
 ·rename_i hc;rw[Option.map_none,Option.getD_none,beq_self_eq_true,Bool.true_and,beq_iff_eq]at hc;refine⟨Fx,λt' k=>?_⟩;obtain hx: x=⟨((strSliceIndices (l.map (·.1)) (u.map (·.1)) 1 x.length).filterMap (x.cps[·]?)).toArray⟩:=by
   have hl:(strSliceIndices (l.map (·.1)) (u.map (·.1)) 1 x.length).length=x.length:=hc;rw[idx_eq,gK,List.length_range]at hl;obtain b0:eR x.length (u.map (·.1)) x.length<=x.length:=zg _ _ (bc _);rw[Ik];obtain e1: y4 (eR x.length (u.map (·.1)) x.length) x.cps.toList=x.cps.toList:=u9 (by rw[hn];lia);rw[e1];by_cases Oq:x.length=0
   ·have af:x.cps.toList=[]:=Hb.mp (by rw[hn];exact Oq);rw[af,BR];clear b0 e1 h hc ML hl hle hn hz Fx Oq;obtain⟨⟨c⟩⟩:=x;simp at af;rw[af]
   ·have af:eR 0 (l.map (·.1)) x.length=0:=by lia
    rw[af,rK]
  have af:=h t' k;rw[<- hx]at af;exact af
 ·refine⟨?_,λt' k=>h t' k⟩;show(List.toArray _).size<=_;rw[Bo];exact bC (PI _ _) (bC hle Fx)
end
end Zq
namespace Zq
open PySem PySem.W PySem.Calls PyProof.Rows PySem.SeqAt
theorem Jn (m:Mo α)(f:α->Mo β)(g:β->Mo γ):bd (bd m f) g=bd m λa=>bd (f a) g:=by
 funext σ
 unfold bd;induction m σ with
 |none=>rfl
 |some p=>obtain⟨r,aj⟩:=p;induction r<;>rfl
set_option tactic.hygienic true in
theorem VR.handed (q:VR h ρ n v x):handedIn x=true:=by
 induction v using Zq.V.casesOn<;>dsimp only[VR]at q
 ·subst q;rfl
 ·subst q;rfl
 ·refine oE q ?_;clear q;rintro _ rfl;rfl
 ·refine oE q ?_;clear q;rintro _ rfl;rfl
 ·refine oA q ?_;clear q;rintro _ rfl;rfl
 ·subst q;rfl
 ·subst q;rfl
 ·subst q;rename_i b;induction b<;>first|rfl|decide +kernel
 ·refine jI q ?_;clear q;rintro _ _ _ rfl _;rfl
 ·refine aO q ?_;clear q;rintro _ rfl _;rfl
 ·refine ub q ?_;clear q;rintro _ _ _ _ rfl _;rfl
 ·refine oA q ?_;clear q;rintro rfl _;rfl
theorem C6 (h:mR o=true):attributeBase o x ah t=t:=by
 induction o using cR with
 |Call f as ks p =>
  induction f using cR with
  |Name a b =>
   induction as using aQ with
   |nil =>
    induction ks using aQ with
    |nil=>exact fT h
    |cons=>rfl
   |cons=>rfl
  |_=>rfl
 |_=>rfl
section
variable {au:cB}{w:bw}{K:bz}{P:PE}{sf:Jb->Mo An}{A:bZ}{fs:List a9}{L:ax}{ah:a9}{U:Fm}{ρ:Nat->ax}{σ:Sg}{s:aN}{X F:List ax}{EX:bf->(Nat->ax)->Nat->Prop}{d:Nat}
theorem CM (hw:W w.params K fs ρ σ s.heap)(h1:sd i σ=some (C,dd))(h2:qz dd σ=some l):i<σ.length/\∃es k,s.heap.get? (ρ dd)=some (dictOf es k)/\dd<σ.length/\ki w.params s.heap ρ σ.length l es/\InstAt s.heap (ρ i) (instObj C (ρ dd)) C (some (dictOf es k)):=by
 refine fp (Q4 hw h1) ?_;rintro a1 a2 a3;refine iq (B9 hw h2) ?_;rintro b1 es k b2 b3;exact⟨a1,es,k,b2,b1,b3,a3,rfl,rfl,b2⟩
theorem ki.CS (e:ki w.params h ρ n l es):es.any (·.refKey)=false:=by
 rw[List.any_eq_false];intro en he;refine dc (e.k en he) ?_;rintro x t h1 _;simp[DictEntry.refKey,h1]
theorem HC (h1:hasDictIn K C=true)(h2:findIn K (.ref C) x=some none)(h3:es.find? (·.key.isStr x)=some en):findObj K C (some (dictOf es k)) x=some (.value en.val):=by
 refine aO (any_some h1) ?_;rintro cd hc hd;unfold findObj;rw[hc,jC,h2,jC,jC,jC];dsimp only;unfold Iy;rw[if_pos hd];dsimp only;rw[lookIn_dict];unfold getL;rw[h3];rfl
theorem Pe (h1:hasDictIn K C=true)(h2:findIn K (.ref C) x=some (some (.ref a)))(h3:es.find? (·.key.isStr x)=none)(hr:es.any (·.refKey)=false)(h4:specialIn K (.ref a) "__get__"=some (some (.builtin "function.__get__")))(h5:takesIn K (.ref a)=some false)(h6:copiedNames.contains x=false):findObj K C (some (dictOf es k)) x=some (.bind (.builtin "function.__get__") (.ref a)):=by
 refine aO (any_some h1) ?_;rintro cd hc hd;unfold findObj;rw[hc,jC,h2,jC];dsimp only;rw[h4,jC];dsimp only;rw[h5,jC];dsimp only;unfold Iy;rw[if_pos hd];dsimp only;rw[lookIn_dict];unfold getL;rw[h3];skip;rw[hr,if_neg (by decide),jC];dsimp only;rw[h6,Bool.false_and,if_neg (by decide)]
theorem Pt (PO:qS P K)(hs:N0<=s.heap.objs.size)(hw:W w.params K fs ρ σ s.heap){ex:Bool}(ho:VR s.heap ρ σ.length o ov):aL (model au w) A w.params K fs L X F ρ σ s EX (sg P o x) (getAttr ov x ex) RV:=by
 induction o using V.casesOn with
 |ref i =>
  refine oA ho ?_;clear ho;rintro hi rfl;skip;refine .gt λCd h1=>.gt λl h2=>?_;obtain⟨C,dd⟩:=Cd;refine v7 (CM hw h1 h2) ?_;rintro _ es k e1 e2 e3 I;skip;induction hv:lk x l with
  |some v =>
   induction ha:P.jv C x with
   |none=>exact .no
   |some r =>
    induction r with
    |some a=>exact .no
    |none =>
     refine zo (PO.jv _ _ _ ha) ?_;rintro c1 c2 c3 c4 _;refine aO (e3.s _ _ hv) ?_;rintro en f1 f2;unfold plainGet at c2;simp only[cc,beq_iff_eq]at c2;exact .now (λZ Z e=>dU e) hw λQ E h=>get_value hw.ba.k I c2.1 (HC c1 c4 f1) f2.handed (h _ _ f2)
  |none =>
   induction ha:P.jv C x with
   |none=>exact .no
   |some r =>
    induction r with
    |none=>exact .no
    |some a =>
     refine zh (PO.jv _ _ _ ha) ?_;rintro c1 c2 c3 c4 c5 _;refine fp (c5 a rfl) ?_;rintro g1 g2 g3;unfold plainGet at c2;simp only[cc,beq_iff_eq]at c2;refine .val (λZ Z e=>dU e) hw λQ E h=>get_bind hw.ba.k I c2.1 (Pe c1 c4 (e3.z _ hv) e3.CS g2 g3 c3) c2.2 ?_;refine tS (fn_get (K:=K) hw.ba.k g1 ?_);refine bq (h _ _ ?_ (λZ Z e=>dF _ e) rfl rfl);exact(cO _ rfl hi (hW _ rfl))
 |_=>exact .no
end
section
variable {au:cB}{w:bw}{K:bz}{P:PE}{sf:Jb->Mo An}{A:bZ}{fs:List a9}{L:ax}{ah:a9}{U:Fm}{ρ:Nat->ax}{σ:Sg}{s:aN}{X F:List ax}{EX:bf->(Nat->ax)->Nat->Prop}{d:Nat}
noncomputable def RM:Rl (V×List V) (az×List az):=λh ρ n a b=>VR h ρ n a.1 b.1/\aW h ρ n a.2 b.2
theorem aW.nil:aW h ρ n [] []:=by rfl
theorem aW.one (q:VR h ρ n v x):aW h ρ n [v] [x]:=by exact(ey x [] rfl q (.nil))
theorem Ru {id:String}(slot:Slot "str" name id)(oj:typeOf (.builtin id)=pure (.type "method_descriptor"))(h:Q (.builtin id,[.str x t]) s):wpAny (model au w) A (getMethod (.str x t) name pl) Q E s :=
 getMethod_builtin (typeIs_str s x t) PySem.F.plainAttrs_str slot oj (λZ e=>nomatch e) h
theorem Qs {name:ak}{id:String}{pl:Sem Bool}{a:ax}{ys:Array az}{k:Nat}{Q:az×List az->aN->Prop}{E:az->aN->Prop}(slot:Slot "list" name id)(oj:typeOf (.builtin id)=pure (.type "method_descriptor"))
 (e:s.heap.get? a=some {cls:=.type "list",data:=.seq ys k}) (h:Q (.builtin id,[.ref a]) s):wpAny (model au w) A (getMethod (.ref a) name pl) Q E s :=
 getMethod_builtin (fR e).typeIs PySem.F.plainAttrs_list slot oj (λZ q=>by cases q;exact(aP _ e rfl)) h
set_option tactic.hygienic true in
theorem Sr (e:Eb x=some b):∃id,uC b=.builtin id/\Slot "str" x id/\typeOf (.builtin id)=pure (.type "method_descriptor"):=by
 unfold Eb at e;split at e
 ·rename_i h;(refine aT e ?_);rw[eh.mp h];exact(cO _ rfl PJ PySem.F.type_str_find)
 split at e
 ·rename_i h;(refine aT e ?_);rw[eh.mp h];exact(cO _ rfl PySem.F.slot_str_startswith PySem.F.type_str_startswith)
 split at e
 ·rename_i h;(refine aT e ?_);rw[eh.mp h];exact(cO _ rfl PySem.F.slot_str_endswith PySem.F.type_str_endswith)
 split at e
 ·rename_i h;(refine aT e ?_);rw[eh.mp h];exact(cO _ rfl A9 PySem.F.type_str_split)
 split at e
 ·rename_i h;(refine aT e ?_);rw[eh.mp h];exact(cO _ rfl PySem.F.slot_str_join PySem.F.type_str_join)
 split at e
 ·rename_i h;(refine aT e ?_);rw[eh.mp h];exact(cO _ rfl Pb PySem.F.type_str_replace)
 split at e
 ·rename_i h;(refine aT e ?_);rw[eh.mp h];exact(cO _ rfl PySem.F.slot_str_lower PySem.F.type_str_lower)
 ·exact nS e
set_option tactic.hygienic true in
theorem Sa (e:wG x=some b):∃id,uC b=.builtin id/\Slot "list" x id/\typeOf (.builtin id)=pure (.type "method_descriptor"):=by
 unfold wG at e;split at e
 ·rename_i h;(refine aT e ?_;clear e b);rw[eh.mp h];exact(cO _ rfl Pc PySem.F.type_list_append)
 split at e
 ·rename_i h;(refine aT e ?_;clear e b);rw[eh.mp h];exact(cO _ rfl PK PySem.F.type_list_pop)
 ·exact nS e
theorem O6 (PO:qS P K)(hw:W w.params K fs ρ σ s.heap)(ho:VR s.heap ρ σ.length o ov):aL (model au w) A w.params K fs L X F ρ σ s EX (mq P o x) (getMethod ov x pl) RM:=by
 induction o using V.casesOn with
 |str y =>
  skip;refine oE ho ?_;clear ho;rintro t rfl;refine .aX λb hb=>?_;refine cy (Sr hb) ?_;rintro id h1 h2 h3;exact .now (λZ Z e=>dU e) hw λQ E h=>Ru h2 h3 (h _ s.toks ⟨by rw[<- h1];rfl,.one ⟨t,rfl⟩⟩)
 |ref i =>
  unfold mq;refine oA ho ?_;clear ho;rintro hi rfl;obtain hv:VR s.heap ρ σ.length (.ref i) (.ref (ρ i)):=by exact⟨hi,rfl⟩
  induction hn:ay σ i with
  |none=>exact .of_none (by simp only[hn])
  |some ob =>
   induction ob with
   |list l =>
    refine dc (hw.hr.ob i _ hn) ?_;rintro ys k e1 e2;intro r aj e;dsimp only at e;rw[hn]at e;revert r aj e;refine aL.aX λb hb=>?_;refine cy (Sa hb) ?_;rintro id h1 h2 h3;exact .now (λZ Z e=>dU e) hw λQ E h=>Qs h2 h3 e1 (h _ s.toks ⟨by rw[<- h1];rfl,.one hv⟩)
   |inst C dd =>
    intro r aj e;dsimp only at e;rw[hn]at e;revert r aj e;refine aL.gt λl h2=>?_;obtain h1: sd i σ=some (C,dd):=by unfold sd;rw[hn]
    refine v7 (CM hw h1 h2) ?_;rintro _ es k e1 e2 e3 I;induction M7:lk x l with
    |some v =>
     induction ha:P.jv C x with
     |none=>exact .no
     |some r =>
      induction r with
      |some a=>exact .no
      |none =>
       refine zo (PO.jv _ _ _ ha) ?_;rintro c1 c2 c3 c4 _;refine aO (e3.s _ _ M7) ?_;rintro en f1 f2;unfold plainGet at c2;simp only[cc,beq_iff_eq]at c2;exact .now (λZ Z e=>dU e) hw λQ E h=>method_usual hw.ba.k I c2.1 c2.2 c4 rfl (get_value hw.ba.k I c2.1 (HC c1 c4 f1) f2.handed (h _ _ ⟨f2,.nil⟩))
    |none =>
     induction ha:P.jv C x with
     |none=>exact .no
     |some r =>
      induction r with
      |none=>exact .no
      |some a =>
       refine zh (PO.jv _ _ _ ha) ?_;rintro c1 c2 c3 c4 c5 _;refine fp (c5 a rfl) ?_;rintro g1 g2 g3;unfold plainGet at c2;simp only[cc,beq_iff_eq]at c2;refine .now (λZ Z e=>dU e) hw λQ E h=>method_fn hw.ba.k I c2.1 c2.2 c4 g1 ?_ (h _ s.toks ⟨rfl,.one hv⟩);show Option.map _ (lookIn x (dictOf es k))=_;rw[lookIn_dict];unfold getL;rw[e3.z _ M7];skip;rw[e3.CS,if_neg (by decide)];rfl
   |_=>exact .of_none (by simp only[hn])
 |_=>exact .no
end
theorem Kt (x:ak)(v:V):∀l:List (ak×V),(pu x v l).length=if (lk x l).isSome then l.length else l.length+1
 |[]=>rfl
 |p::r=>by
  dsimp only[pu];rw[fA];by_cases h:x=p.1
  ·rw[eh.mpr h,if_pos h];simp
  ·obtain af: bg x p.1=false:=by
    induction q:bg x p.1 with
    |false=>rfl
    |true=>exact absurd (eh.mp q) h
   rw[af,if_neg h];rw[dJ,Kt x v r];split<;>rfl
noncomputable def sq (P:bA)(es:List oR):Prop:=∀e,e∈es->∃x t,e.key=.str x t/\e.hash=gm P x
theorem vK (h:e.key=.str x t)(y:ak):e.key.isStr y=(x==y)/\i6 e=x:=by
 refine⟨?_,?_⟩
 ·rw[h];rfl
 ·unfold i6;rw[h]
theorem ki.turn (e:ki P h ρ n l es)(hv:VR h ρ n v y)(k':sq P fu)(Zi:(fu.map i6).Nodup)(hf:∀x,(fu.find? (·.key.isStr x)).map (·.val)=if x=name then some y else (es.find? (·.key.isStr x)).map (·.val))(hl:fu.length<=es.length+(if (es.find? (·.key.isStr name)).isSome then 0 else 1)):ki P h ρ n (pu name v l) fu:=by
 refine⟨k',λx u q=>?_,λx q=>?_,?_,Zi⟩
 ·rw[wq]at q;have af:=hf x;by_cases hx:x=name
  ·rw[if_pos hx]at q af;(refine aT q ?_);refine aO (mO.mp af) ?_;rintro en h1 h2;exact(aP en h1 (h2▸hv))
  ·rw[if_neg hx]at q af;refine aO (e.s _ _ q) ?_;rintro en h1 h2;rw[h1]at af;refine aO (mO.mp af) ?_;rintro en' h3 h4;exact(aP en' h3 (h4▸h2))
 ·rw[wq]at q;have af:=hf x;by_cases hx:x=name
  ·rw[if_pos hx]at q;exact sN q
  ·rw[if_neg hx]at q af;rw[e.z _ q]at af;exact u7.mp af
 ·rw[Kt];have af:=e.len;induction hq:lk name l with
  |none =>
   obtain h0:= e.z _ hq;rw[h0]at hl;simp at hl ⊢;lia
  |some u =>
   refine aO (e.s _ _ hq) ?_;rintro en h1 _;rw[h1]at hl;simp at hl ⊢;exact bC hl af
theorem yV:∀{es},sq P es->(es.map i6).Nodup ->
 sq P (putL name (gm P name) (.str name t) y es)/\((putL name (gm P name) (.str name t) y es).map i6=if name∈es.map i6 then es.map i6 else es.map i6++[name]) /\
 (∀x,((putL name (gm P name) (.str name t) y es).find? (·.key.isStr x)).map (·.val)=if x=name then some y else (es.find? (·.key.isStr x)).map (·.val)) /\
 (putL name (gm P name) (.str name t) y es).length=es.length+(if (es.find? (·.key.isStr name)).isSome then 0 else 1)
 |[],_,_=>by
  refine(pq (λe he=>?_) rfl (λx=>?_) rfl)
  ·(refine il (iD.mp he) ?_);exact(cF name t rfl rfl)
  ·obtain hq:(Value.str name t).isStr x=(name==x):=rfl;skip;rw[nO,hq];by_cases h:x=name
   ·clear hq;(refine il h ?_);simp
   ·have af:(name==x)=false:=beq_eq_false_iff_ne.mpr λq=>h q.symm;simp[af,h]
 |e::r,hk,hn=>by
  refine dc (hk e (.head _)) ?_;rintro z u h1 h2;have hi:∀q,e.key.isStr q=(z==q):=λq=>(vK h1 q).1;have hz:=(vK h1 z).2;obtain MZ:sq P r:=λa b=>hk a (.tail _ b);obtain Zm:=(jS.mp hn).2;refine nA (yV (name:=name) (t:=t) (y:=y) MZ Zm) ?_;rintro i1 i2 i3 i4;unfold putL;by_cases hc:z=name
  ·clear i1 i2 i3 i4;subst hc;obtain hb:e.key.isStr z=true:=by rw[hi];simp
   rw[if_pos hb];have Gh:=hi;refine(pq (λa ha=>?_) ?_ (λx=>?_) ?_)
   ·refine aG (cU.mp ha) ?_ ?_
    ·rintro rfl;exact(cF z u h1 h2)
    ·rintro ha;exact MZ a ha
   ·have af:i6 ⟨e.hash,e.key,y⟩=z:=(vK (e:=⟨e.hash,e.key,y⟩) h1 z).2;simp[af,hz]
   ·rw[nO,nO,hi];by_cases h:x=z
    ·(refine il h ?_);simp
    ·have af:(z==x)=false:=beq_eq_false_iff_ne.mpr λq=>h q.symm;simp[af,h]
   ·rw[nO,hb];simp
  ·have hb:e.key.isStr name=false:=by rw[hi];exact beq_eq_false_iff_ne.mpr hc
   rw[hb,if_neg (by decide)];refine(pq (λa ha=>?_) ?_ (λx=>?_) ?_)
   ·refine aG (cU.mp ha) ?_ ?_
    ·rintro rfl;exact(cF z u h1 h2)
    ·rintro ha;exact i1 a ha
   ·rw[nQ,i2,hz];obtain FQ: name≠z:=λq=>hc q.symm;by_cases hm:name∈r.map i6
    ·simp only[nQ,cU,hz,hm,if_true,or_true]
    ·simp only[nQ,cU,hz,hm,if_false,or_false,FQ,vj]
   ·rw[nO,nO,hi];by_cases h:z=x
    ·subst h;simp[hc]
    ·have af:(z==x)=false:=beq_eq_false_iff_ne.mpr h;rw[af];exact i3 x
   ·rw[dJ,i4,nO,hb,dJ];skip;lia
set_option tactic.hygienic true in
theorem ki.putL (e:ki P h ρ n l es)(hv:VR h ρ n v y):ki P h ρ n (pu name v l) (PySem.W.putL name (gm P name) (.str name t) y es):=by
 refine nA (yV (name:=name) (t:=t) (y:=y) e.k e.nd) ?_;rintro a b c d;refine e.turn hv a ?_ c (hZ d);rw[b];split
 ·exact e.nd
 ·rename_i hm;refine List.nodup_append.mpr (dg e.nd (by simp) (λx hx y hy=>?_));(refine il (iD.mp hy) ?_);exact λq=>hm (q▸hx)
section
variable {au:cB}{w:bw}{K:bz}{P:PE}{sf:Jb->Mo An}{A:bZ}{fs:List a9}{L:ax}{ah:a9}{U:Fm}{ρ:Nat->ax}{σ:Sg}{s:aN}{X F:List ax}{EX:bf->(Nat->ax)->Nat->Prop}{d:Nat}
theorem aL.turn {a:α}(hm:∀r aj,m σ=some (r,aj)->r=.ok a/\aj=bG σ i o)(hi:i<σ.length)(hF:F=aI fs)(hw:W w.params K fs ρ σ s.heap)(h:∀(Q:β->aN->Prop) (E:az->aN->Prop),(∀b s',kx (ρ i) s.heap s'.heap->(Kp s.heap ρ σ.length s'.heap ρ σ.length->OR w.params s'.heap ρ σ.length (ρ i) o/\R s'.heap ρ σ.length a b)->s'.gens=s.gens->s'.os=s.os->Q b s')->wpAny M A t Q E s):aL M A w.params K fs L X F ρ σ s EX m t R:=by
 intro r aj e Q E hq;refine oA (hm r aj e) ?_;rintro rfl rfl;obtain hl:=kz σ i o;refine h Q E λb s' k hr g1 g2=>?_;obtain kp: Kp s.heap ρ σ.length s'.heap ρ σ.length:=⟨bc _,λZ Z=>rfl,λb o e im=>(k.2 b λz=>hw.y9 hi (z▸e) im).trans e,λZ Z e=>(k.2 _ λz=>absurd (z▸hw.hr.hi i hi) (by decide)).trans e⟩;refine oA (hr kp) ?_;rintro ho hr;obtain w':=hw.put hi k ho;exact(hq ρ s' w' (by rw[hl];exact .own hi k (w'.at (by rw[hl];exact hi)) (.inl (by rw[hF];exact λm=>(hw.fr.ne m).2 i hi rfl))) g1 g2).1 a rfl b (by rw[hl];exact hr)
theorem rU (e:put i o σ=some (r,aj)):r=.ok ()/\aj=bG σ i o:=by
 unfold put at e;induction hb:ay σ i with
 |some x=>rw[hb]at e;(refine dX e ?_;clear e r aj);exact⟨rfl,rfl⟩
 |none=>rw[hb]at e;exact nS e
theorem Pu (PO:qS P K)(hF:F=aI fs)(hw:W w.params K fs ρ σ s.heap)(ho:VR s.heap ρ σ.length o ov)(hv:VR s.heap ρ σ.length v y):aL (model au w) A w.params K fs L X F ρ σ s EX (Dv P o x v) (setAttr ov x y) (λZ Z Z Z Z=>True):=by
 induction o using V.casesOn with
 |ref i =>
  skip;refine oA ho ?_;clear ho;rintro hi rfl;refine .gt λCd h1=>.gt λl h2=>?_;obtain⟨C,dd⟩:=Cd;refine v7 (CM hw h1 h2) ?_;rintro _ es k e1 e2 e3 I;skip;induction ha:P.jv C x with
  |none=>exact .no
  |some r =>
   induction r with
   |some a=>exact .no
   |none =>
    refine Sl (PO.jv _ _ _ ha) ?_;rintro c1 c2 c3 c4 _ c6 c7 c8;induction hz:fits l.length with
    |false=>exact .no
    |true =>
     have hz:= dA hz;refine .turn (o:=.dict (pu x v l)) (a:=()) (i:=dd) (λr aj e=>rU e) e2 hF hw λQ E h=>?_;refine set_plain hw.ba.k I c6 ?_;refine osa_open (s:={s with toks:=s.toks+1}) hw.ba.k I c7 c8 λb=>?_;refine aO (any_some c1) ?_;rintro cd hc dZ;obtain hx:= I.at_;refine aF (bq (aF (aF (yl hx (aF (looks_clsIn (M:=model au w) hw.ba.k hc _ _ _ _ (λZ Z e=>e) ?_))))));rw[dZ];refine bq (a:=some (ρ dd)) (aF (bq (aF ?_)));skip;refine aF (aF (wpAny_askSetting (bq (aF (yB (aF (yl e1 ?_)))))));dsimp only;obtain c: (!es.toArray.any (·.key.isStr x)&&es.toArray.any (·.refKey))=false:=by
      obtain af:= e3.CS;rw[<- Bu,<- Bu];rw[af,IC]
     rw[aRefKeyMayBeTheName_at,c];refine wpAny_updatePart e1 ?_;obtain hp:=putName_dict x (gm w.params x) (.str x (s.toks+1)) y es k;have D':(s.heap.update (ρ dd) (Obj.putName x (gm w.params x) (.str x (s.toks+1)) y)).get? (ρ dd)=some (dictOf (putL x (gm w.params x) (.str x (s.toks+1)) y es) (putN x es k)):=by
      rw[<- hp];exact ku _ e1 (by rw[hp];rfl)
     obtain fY: (putL x (gm w.params x) (.str x (s.toks+1)) y es).length<=es.length+1:=by
      have af:=(yV (name:=x) (t:=s.toks+1) (y:=y) e3.k e3.nd).2.2.2;rw[af];split<;>lia
     refine aF (wpAny_lookBehind D' (pastItsLine_dict (by rw[Bo,sizeLine_eq];obtain af:= e3.len;lia)) ?_);refine bq (h () _ (xM ..) (λkp=>⟨(cF _ _ D' ?_),trivial⟩) rfl rfl);exact(e3.kp kp).putL (hv.kp kp)
 |_=>exact .no
end
set_option tactic.hygienic true in
theorem OV (x:ak):valueAt (stored uV k v) x=if x=k then some v else valueAt uV x:=by
 obtain Eo: ∀l:List (ak×az),valueAt (l.map λkv=>if kv.1=k then (kv.1,v) else kv) x=if x=k then (valueAt l x).map (λZ=>v) else valueAt l x:=by
  intro l;induction l with
  |nil=>simp[valueAt]
  |cons a r ih =>
   unfold valueAt at ih ⊢;rw[nQ,nO,nO];by_cases h1:a.1=k
   ·rw[if_pos h1];by_cases h2:a.1=x
    ·have af:x=k:=h2▸h1;clear ih;(refine il af ?_);simp[h1]
    ·have af:x≠k:=λq=>h2 (q▸h1);simp only[h2,decide_false,if_neg af]at ih ⊢;exact ih
   ·rw[if_neg h1];by_cases h2:a.1=x
    ·have af:x≠k:=λq=>h1 (q▸h2);simp[h2,af]
    ·simp only[h2,decide_false]at ih ⊢;exact ih
 unfold stored;split
 ·rename_i ha;rw[Eo];by_cases h:x=k
  ·rw[if_pos h,if_pos h];clear Eo;subst h;rw[Bv]at ha;refine aO ha ?_;rintro kv hm hk;have af:(uV.find? λkv=>kv.1=x).isSome:=List.find?_isSome.mpr (aP kv hm hk);refine oE (Option.isSome_iff_exists.mp af) ?_;rintro q hq;unfold valueAt;rw[hq];rfl
  ·rw[if_neg h,if_neg h]
 ·rename_i ha;obtain hn: valueAt uV k=none:=by
   unfold valueAt;rw[u7,List.find?_eq_none];intro kv hm hk;exact ha (Bv.mpr (aP kv hm hk))
  unfold valueAt at hn ⊢;rw[List.find?_append];by_cases h:x=k
  ·clear ha Eo;(refine il h ?_);rw[u7.mp hn];simp
  ·have af:¬k=x:=λq=>h q.symm;rw[if_neg h];induction hq:uV.find? λkv=>kv.1=x with
   |some q=>simp
   |none=>simp[af]
theorem H9 (h:Pairs (strKind au w) es uV):es.map i6=uV.map (·.1):=by
 induction h with
 |nil=>rfl
 |@cons e kv _ _ h1 h2 r ih =>
  refine oE (Value.isStrOf_shape h1) ?_;rintro t ht;rw[nQ,nQ,ih,(vK ht kv.1).2]
theorem IY:∀{es},sq w.params es->Pairs (strKind au w) es (es.map λe=>(i6 e,e.val))
 |[],_=>.nil
 |e::r,h=>by
  refine dc (h e (.head _)) ?_;rintro x t h1 h2;refine .cons ?_ rfl (IY λa b=>h a (.tail _ b));show(strKind au w).is (i6 e) e.key=true;rw[(vK h1 x).2,h1];exact strKind_is au w x t
section
variable {au:cB}{w:bw}{K:bz}{P:PE}{sf:Jb->Mo An}{A:bZ}{fs:List a9}{L:ax}{ah:a9}{U:Fm}{ρ:Nat->ax}{σ:Sg}{s:aN}{X F:List ax}{EX:bf->(Nat->ax)->Nat->Prop}{d:Nat}
theorem aW.set:∀{l} {xs} {j} {v} {y},aW h ρ n l xs->VR h ρ n v y->aW h ρ n (bG l j v) (xs.set j y)
 |[],xs,j,v,y,a,b=>by subst a;exact .nil
 |u::l,xs,0,v,y,a,b=>by
  refine cj a ?_;clear a;rintro z r rfl a1 a2;skip;exact(ey y r rfl b a2)
 |u::l,xs,j+1,v,y,a,b=>by
  refine cj a ?_;clear a;rintro z r rfl a1 a2;skip;exact(ey z (r.set j y) rfl a1 (a2.set b))
set_option tactic.hygienic true in
theorem Pw (hF:F=aI fs)(hw:W w.params K fs ρ σ s.heap)(ho:VR s.heap ρ σ.length o ov)(hi:VR s.heap ρ σ.length i iv)(hv:VR s.heap ρ σ.length v y):aL (model au w) A w.params K fs L X F ρ σ s EX (mZ o i v) (setItem ov iv y) (λZ Z Z Z Z=>True):=by
 induction o using Zq.V.casesOn with
 |ref r =>
  induction i using Zq.V.casesOn with
  |int k =>
   refine oA ho ?_;clear ho;rintro hr rfl;refine oE hi ?_;clear hi;rintro u rfl;refine .gt λl hl=>.aX λj hj=>?_;refine iq (lh hw hl) ?_;rintro _ ys c e1 e2;obtain hn: ys.size=l.length:=by have af:=e2.len;simpa using af
   refine .turn (o:=.list (bG l j v)) (a:=()) (i:=r) (λr aj e=>rU e) hr hF hw λQ E h=>OQ (j:=j) e1 (by rw[hn];exact hj) (h () _ (xM ..) (λkp=>⟨(cF _ _ (ku _ e1 rfl) ?_),trivial⟩) rfl rfl);rw[Array.toList_setIfInBounds];exact(e2.kp kp).set (hv.kp kp)
  |str k =>
   refine oA ho ?_;clear ho;rintro hr rfl;refine oE hi ?_;clear hi;rintro u rfl;refine .gt λl hl=>?_;refine iq (B9 hw hl) ?_;rintro _ es c e1 e2;induction hz:fits l.length with
   |false=>exact .no
   |true =>
    obtain hz:= dA hz;have hp:=IY (au:=au) e2.k;obtain hd: s.heap.DictOf (strKind au w) (ρ r) (es.map λe=>(i6 e,e.val)):=by
     refine⟨_,es.toArray,c,e1,(dg rfl rfl rfl),rfl,λen he=>?_,by simpa using hp,?_⟩
     ·refine dc (e2.k en (List.mem_toArray.mp he)) ?_;rintro x t h1 h2;exact(aP x (by rw[h1];exact strKind_is au w x t) (by rw[h2];rfl))
     ·rw[<- H9 hp];exact e2.nd
    refine .turn (o:=.dict (pu k v l)) (a:=()) (i:=r) (λr aj e=>rU e) hr hF hw λQ E h=>wpAny_setItem_pairs (strKind_is au w k u) hd (λh' dZ ta=>h () _ ta (λkp=>⟨?_,trivial⟩) rfl rfl) ?_
    ·refine Rc dZ ?_;rintro⟨oc,od,oda,iU⟩ fu ep g1 ⟨g2,g3,g4⟩ g5 g6 g7 g8;dsimp only at g2 g3 g4 g5;subst g2 g3 g4 g5;obtain he:=H9 g7;refine(cF fu.toList ep g1 ((e2.kp kp).turn (hv.kp kp) (λen he=>?_) (by rw[he];exact g8) (λx=>?_) ?_))
     ·refine aO (g6 en (Array.mem_toList_iff.mp he)) ?_;rintro x h1 h2;refine oE (Value.isStrOf_shape h1) ?_;rintro t ht;exact(cF x t ht h2)
     ·obtain q:= g7.find x;rw[OV]at q;obtain q2:= hp.find x;obtain f1:(λe:oR=>(strKind au w).is x e.key)=λe=>e.key.isStr x:=funext λe=>BK x e.key;rw[f1]at q q2;rw[q,q2]
     ·rw[g7.length];unfold stored;obtain q2:= hp.find k;obtain f1:(λe:oR=>(strKind au w).is k e.key)=λe=>e.key.isStr k:=funext λe=>BK k e.key;rw[f1]at q2;split
      ·simp
      ·rename_i ha;obtain Wg: valueAt (es.map λe=>(i6 e,e.val)) k=none:=by
        unfold valueAt;rw[u7,List.find?_eq_none];intro kv hm hk;exact ha (Bv.mpr (aP kv hm hk))
       rw[Wg]at q2;rw[u7.mp q2];simp
    ·rw[gK];exact bC e2.len hz
  |_=>exact .no
 |_=>exact .no
end
open PySem.Builtin.Str PySem.StrLaws
theorem JF (s sub:ak)(hi:Nat):∀(l:List Nat) (free:Nat),(∀i∈l,free<=i) ->
 (forIn l ((#[]:Array Nat),free) (occBody s sub hi 1)).run.fst.toList=match l.find? (λi=>decide (i+sub.length<=hi)&&subAt s sub i) with|some i=>[i]|none=>[]
 |[],free,_=>rfl
 |a::l,free,hf=>by
  rw[vp,nO];unfold occBody;obtain ha:=hf a (fJ ..);by_cases hc:a+sub.length<=hi/\subAt s sub a=true
  ·obtain c1: (((#[]:Array Nat),free).fst.size<1/\((#[]:Array Nat),free).snd<=a)/\a+sub.length<=hi:=⟨⟨by simp,ha⟩,hc.1⟩;rw[if_pos ⟨c1,hc.2⟩];obtain hd: (decide (a+sub.length<=hi)&&subAt s sub a)=true:=by simp[hc.1,hc.2]
   rw[hd];have W7:∀(l:List Nat) (k:Nat),(forIn (m:=Id) l ((#[a]:Array Nat),k) (occBody s sub hi 1)).run.fst=#[a]:=by
    intro l;induction l with
    |nil=>intro k;rfl
    |cons b r ih =>
     intro k;have hi: ¬((((#[a]:Array Nat).size<1/\k<=b)/\b+sub.length<=hi)/\subAt s sub b=true):=λc=>by have af:=c.1.1.1;simp at af
     rw[vp,occBody,if_neg hi];exact ih k
   show(forIn (m:=Id) l ((#[]:Array Nat).push a,a+sub.length) (occBody s sub hi 1)).run.fst.toList=[a];rw[show(#[]:Array Nat).push a=#[a] from rfl,W7]
  ·obtain c2: ¬(((((#[]:Array Nat),free).fst.size<1/\((#[]:Array Nat),free).snd<=a)/\a+sub.length<=hi)/\subAt s sub a=true):=λh=>hc ⟨h.1.2,h.2⟩;rw[if_neg c2];obtain hd: (decide (a+sub.length<=hi)&&subAt s sub a)=false:=by
    by_cases h1:a+sub.length<=hi
    ·obtain af: subAt s sub a=false:=by
      induction q:subAt s sub a with
      |false=>rfl
      |true=>exact absurd ⟨h1,q⟩ hc
     simp[af]
    ·simp[h1]
   rw[hd];exact JF s sub hi l free λi Gh=>hf i (jj _ Gh)
theorem JG (x y:ak)(Gh:i<=hi)(hh:hi<=y.cps.toList.length):(decide (i+x.length<=hi)&&subAt y x i)=dh x.cps.toList ((y.cps.toList.take hi).drop i):=by
 obtain hx: x.length=x.cps.toList.length:=by simp[l0]
 rw[BD,rx,Hc];rw[cc,decide_eq_true_eq];rw[Cc,hx,IB,BN];constructor
 ·rintro⟨h1,h2⟩;rw[nP (by lia)];exact h2
 ·intro h;obtain hl:= congrArg ew h;rw[pY,nN]at hl;by_cases h1:i+x.cps.toList.length<=hi
  ·refine⟨h1,?_⟩;rw[nP (by lia)]at h;exact h
  ·exact absurd (Nat.add_le_of_le_sub' ‹i<=hi› (bC (hZ hl) (bC (Iw _ _) (HX _ _)))) h1
set_option tactic.hygienic true in
theorem Hy (x y:ak)(hh:hi<=y.cps.toList.length):∀(k i:Nat),i+k=hi+1->0<k ->
 fz x.cps.toList i ((y.cps.toList.take hi).drop i)=(List.range' i k).find? (λi=>decide (i+x.length<=hi)&&subAt y x i)
 | 0,i,e,h0=>absurd h0 (qe _)
 |k+1,i,e,_=>by
  rw[List.range'_succ,nO,JG x y (by lia) hh];obtain fY:(y.cps.toList.take hi).length=hi:=by rw[pY];lia
  by_cases hk:k=0
  ·(refine ir hk ?_);obtain af: (y.cps.toList.take hi).drop i=[]:=rz.mpr (by lia);rw[af];dsimp only[fz];split<;>simp_all
  ·have gY:i<(y.cps.toList.take hi).length:=by lia
   obtain hd:=Pn gY;rw[hd];dsimp only[fz];split
   ·rename_i q;rw[q]
   ·rename_i q;rw[q,Hy x y hh k (i+1) (by lia) (by lia)]
theorem Jc (x y:ak){lo hi:Nat}(hh:hi<=y.cps.toList.length):(match occurrences y x lo hi 1 with|k::_=>(k:Int)|[]=>-1)=match fG lo hi with
 |true=>(match fz x.cps.toList lo ((y.cps.toList.take hi).drop lo) with|some i=>lq i|none=>-1)
 |false=>-1:=by
 rw[occ_eq,JF y x hi _ lo (λi h=>(List.mem_range'_1.mp h).1)];induction hb:fG lo hi with
 |true =>
  obtain hb:=dA hb;rw[Hy x y hh (hi+1-lo) lo (by lia) (by lia)];skip;induction List.find? _ _<;>rfl
 |false =>
  obtain af: hi+1-lo=0:=by
   obtain af: ¬lo<=hi:=λh=>by rw[lg h]at hb;exact tF hb
   exact vf (vo af)
  rw[af];rfl
theorem yK (k:Int)(n:Nat):fromIndex n k=n5 k n:=by
 induction k with
 |ofNat i =>
  unfold fromIndex;obtain h1:¬(lq i<0):=by simp
  rw[if_neg h1];rw[show max 0 (lq i)=i from By (rD _)];rfl
 |negSucc i =>
  unfold fromIndex;rw[if_pos (Bf i)];exact Vc i n
theorem Qq (k:Int)(n:Nat):min (n5 k n) n=bound k n:=by
 induction k with
 |ofNat i=>rfl
 |negSucc i=>exact nP (yO _ _)
theorem HT (x y:ak)(a:Nat):(decide (a+x.length<=y.length)&&subAt y x a)=nT y x a:=by
 obtain hy:y.length=y.cps.toList.length:=by simp[l0]
 unfold nT;induction hb:fG a y.cps.toList.length with
 |true =>
  have af:=JG x y (i:=a) (hi:=y.cps.toList.length) (dA hb) (bc _);rw[vk]at af;rw[hy];exact af
 |false =>
  have af: ¬a<=y.cps.toList.length:=λh=>by rw[lg h]at hb;exact tF hb
  obtain af: ¬a+x.length<=y.length:=by rw[hy];exact λh=>af (ve h)
  simp[af]
theorem R5 (x y:ak):(decide (0+x.length<=y.length)&&subAt y x (y.length-x.length))=jH y x:=by
 obtain hy: y.length=y.cps.toList.length:=by simp[l0]
 obtain hx: x.length=x.cps.toList.length:=by simp[l0]
 unfold jH;rw[BD,rx,List.reverse_prefix];rw[cc,decide_eq_true_eq];rw[Cc,hx,hy,List.suffix_iff_eq_drop];constructor
 ·rintro⟨h1,h2⟩;rw[u9 (by rw[nN];lia)]at h2;exact h2
 ·intro h;obtain hl:=congrArg ew h;rw[nN]at hl;refine⟨by lia,?_⟩;rw[u9 (by rw[nN];lia)];exact h
theorem aW.i1 (q:aW h ρ n (a::l) ys):∃y r,ys=y::r/\VR h ρ n a y/\aW h ρ n l r:=by exact q
theorem aW.i0 (q:aW h ρ n [] ys):ys=[]:=by exact q
theorem insI_perm (x:Int):∀l,(insI x l).Perm (x::l)
 |[]=>.refl _
 |y::r=>by
  dsimp only[insI];split
  ·exact .refl _
  ·exact((insI_perm x r).cons y).trans (.swap _ _ _)
theorem sortI_perm:∀ns,(sortI ns).Perm ns
 |[]=>.refl _
 |x::r=>(insI_perm x _).trans ((sortI_perm r).cons x)
set_option tactic.hygienic true in
theorem insI_rises (x:Int):∀l:List Int,l.Pairwise (·<=·)->(insI x l).Pairwise (·<=·)
 |[],_=>List.pairwise_singleton _ _
 |y::r,h=>by
  refine oA (rB.mp h) ?_;rintro h1 h2;dsimp only[insI];split
  ·rename_i uS;exact rB.mpr ⟨λz hz=>by
    refine aG (cU.mp hz) ?_ ?_
    ·rintro rfl;exact uS
    ·rintro hz;exact Int.le_trans uS (h1 z hz),h⟩
  ·rename_i uS;refine rB.mpr ⟨λz hz=>?_,insI_rises x r h2⟩;refine aG (cU.mp ((insI_perm x r).mem_iff.mp hz)) ?_ ?_
   ·rintro rfl;lia
   ·rintro hz;exact h1 z hz
theorem sortI_rises:∀l:List Int,(sortI l).Pairwise (·<=·)
 |[]=>Pj
 |x::r=>insI_rises x _ (sortI_rises r)
theorem Jj (h:IntsAre xs ns):xs.length=ns.length:=by
 induction h with
 |nil=>rfl
 |cons _ _ _ ih=>exact congrArg (·+1) ih
set_option tactic.hygienic true in
theorem J1:∀{l l'} {v},sQ l=some (l',v)->l=l'++[v]
 |[],_,_,e=>by exact nS e
 |[a],_,_,e=>by(refine dX e ?_;clear e);rfl
 |a::b::r,_,_,e=>by
  dsimp only[sQ]at e;split at e
  ·rename_i p hp;(refine dX e ?_;clear e);rw[vj,<- J1 (l':=p.1) (v:=p.2) hp]
  ·exact nS e
section
variable {au:cB}{w:bw}{K:bz}{P:PE}{sf:Jb->Mo An}{A:bZ}{fs:List a9}{L:ax}{ah:a9}{U:Fm}{ρ:Nat->ax}{σ:Sg}{s:aN}{X F:List ax}{EX:bf->(Nat->ax)->Nat->Prop}{d:Nat}
theorem ints_of:∀{l} {ns} {xs},rX l=some ns->aW h ρ n l xs->IntsAre xs ns
 |[],_,xs,e,q=>by cases q.i0;cases e;exact .nil
 |.int z::l,_,xs,e,q=>by
  refine cj q.i1 ?_;clear q;rintro y r rfl ⟨t,rfl⟩ q2;dsimp only[rX]at e;refine aO (mO.mp e) ?_;clear e;rintro Zx e1 rfl;exact .cons _ _ (ints_of e1 q2)
 |.none::l,_,xs,e,q=>by exact nS e
 |.bool _::l,_,xs,e,q=>by exact nS e
 |.str _::l,_,xs,e,q=>by exact nS e
 |.ref _::l,_,xs,e,q=>by exact nS e
 |.fn _::l,_,xs,e,q=>by exact nS e
 |.cls _::l,_,xs,e,q=>by exact nS e
 |.bi _::l,_,xs,e,q=>by exact nS e
 |.tup _::l,_,xs,e,q=>by exact nS e
 |.fj _ _::l,_,xs,e,q=>by exact nS e
 |.cm _::l,_,xs,e,q=>by exact nS e
 |.gG _::l,_,xs,e,q=>by exact nS e
theorem aW.snoc:∀{l} {v} {ys},aW h ρ n (l++[v]) ys->∃xs y,ys=xs++[y]/\aW h ρ n l xs/\VR h ρ n v y
 |[],v,ys,q=>by
  refine cj q.i1 ?_;clear q;rintro y r rfl q1 q2;(refine ir q2.i0 ?_);exact(ey [] y rfl (.nil) q1)
 |a::l,v,ys,q=>by
  refine cj q.i1 ?_;clear q;rintro y r rfl q1 q2;refine cj q2.snoc ?_;rintro xs z rfl q3 q4;exact⟨y::xs,z,rfl,by exact(ey y xs rfl q1 q3),q4⟩
theorem KI:∀{l},aW h ρ n ((l.map (·.1)).map V.str) (strValues l)
 |[]=>.nil
 |(x,t)::r=>by
  show aW _ _ _ (.str x::_) (.str x t::strValues r);exact(ey _ _ rfl ⟨t,rfl⟩ KI)
theorem Py (q:StrsAre xs ss):∃l:List (ak×Tok),xs=strValues l/\l.map (·.1)=ss:=by
 induction q with
 |nil=>exact(aP [] rfl rfl)
 |cons y t _ ih=>refine aO ih ?_;clear ih;rintro l rfl h;exact(aP ((y,t)::l) rfl (by simp[h]))
theorem RW (x:ak):∀ss:List ak,eI x.cps.toList (ss.map (·.cps.toList))=(Txt.join x ss).cps.toList:=by
 intro ss;show _=(glued x ss).cps.toList;rw[glued_eq_join];induction ss with
 |nil=>rfl
 |cons a r ih =>
  induction r using aQ with
  |nil=>rfl
  |cons b r =>
   show a.cps.toList++x.cps.toList++eI _ ((b::r).map _)=(a++x++Str.join x (b::r)).cps.toList;rw[ih];show _=(a.cps++x.cps++(Str.join x (b::r)).cps).toList;simp
theorem Pq (x y:ak)(i j:Int)(t u v z:Tok):Gives (Builtin.«str.find» ⟨[.str x t,.str y u,.int i v,.int j z],[]⟩) (.int (match occurrences x y (fromIndex x.length i) (min (fromIndex x.length j) x.length) 1 with|k::_=>(k:Int)|[]=>-1)):=by
 show Gives (match occurrences x y (fromIndex x.length i) (min (fromIndex x.length j) x.length) 1 with|k::_=>retInt k|[]=>(do rule "str.find.not-found";retInt (-1))) _;induction occurrences x y (fromIndex x.length i) (min (fromIndex x.length j) x.length) 1 using aQ with
 |nil=>exact .rule (.of_eq rfl)
 |cons k r=>exact .of_eq rfl
abbrev Pr (au:cB)(w:bw)(A:bZ)(K:bz)(fs:List a9)(L:ax)(X F:List ax)(ρ:Nat->ax)(σ:Sg)(s:aN)(EX:bf->(Nat->ax)->Nat->Prop)(m:Mo V)(b:az)(vs:List az):Prop:=aL (model au w) A w.params K fs L X F ρ σ s EX m (call b vs) RV
theorem Pr.st {vs:az->List az}(q:VR s.heap ρ σ.length a y)(k:∀x t,Pr au w A K fs L X F ρ σ s EX (f x) b (vs (.str x t))):Pr au w A K fs L X F ρ σ s EX (bd (aX (je a)) f) b (vs y) :=
 .aX λx e=>by refine oE (q.sv e) ?_;clear q;rintro t rfl;exact k x t
theorem Pr.it {vs:az->List az}(q:VR s.heap ρ σ.length a y)(k:∀x t,Pr au w A K fs L X F ρ σ s EX (f x) b (vs (.int x t))):Pr au w A K fs L X F ρ σ s EX (bd (aX (lO a)) f) b (vs y) :=
 .aX λx e=>by refine oE (q.iv e) ?_;clear q;rintro t rfl;exact k x t
theorem Pr.ls {a:V}{y b:az}{vs:az->List az}{f:Nat->List V->Mo V}(hw:W w.params K fs ρ σ s.heap)(q:VR s.heap ρ σ.length a y)
 (k:∀i l ys c,i<σ.length->s.heap.get? (ρ i)=some {cls:=.type "list",data:=.seq ys c}->aW s.heap ρ σ.length l ys.toList->ys.size=l.length->Pr au w A K fs L X F ρ σ s EX (f i l) b (vs (.ref (ρ i)))) :
 Pr au w A K fs L X F ρ σ s EX (bd (aX (tu a)) λi=>bd (gt (listAt i)) (f i)) b (vs y) :=
 .aX λi e=>by
  refine oA (q.rv e) ?_;clear q;rintro hi rfl;refine .gt λl hl=>?_;refine iq (lh hw hl) ?_;rintro _ ys c e1 e2;exact k i l ys c hi e1 e2 (by have af:=e2.len;simpa using af)
theorem Pr.one {av:List V}{vs:List az}{b:az}{f:V->Mo V}(hv:aW s.heap ρ σ.length av vs)(k:∀a y,VR s.heap ρ σ.length a y->Pr au w A K fs L X F ρ σ s EX (f a) b [y]):Pr au w A K fs L X F ρ σ s EX (one av f) b vs:=by
 induction av using aQ with
 |nil=>exact .no
 |cons a r =>
  induction r using aQ with
  |nil =>
   refine cj hv.i1 ?_;clear hv;rintro y _ rfl q q2;cases q2.i0;exact k a y q
  |cons _ _=>exact .no
theorem Pr.two {av:List V}{vs:List az}{b:az}{f:V->V->List V->Mo V}(hv:aW s.heap ρ σ.length av vs)
 (k:∀a c r y z ws,VR s.heap ρ σ.length a y->VR s.heap ρ σ.length c z->aW s.heap ρ σ.length r ws->Pr au w A K fs L X F ρ σ s EX (f a c r) b (y::z::ws)):Pr au w A K fs L X F ρ σ s EX (two av f) b vs:=by
 induction av using aQ with
 |nil=>exact .no
 |cons a r =>
  induction r using aQ with
  |nil=>exact .no
  |cons c r =>
   refine cj hv.i1 ?_;clear hv;rintro y _ rfl q q2;refine cj q2.i1 ?_;rintro z ws rfl q3 q4;exact k a c r y z ws q q3 q4
theorem Pr.end_ {vs:List az->List az}(hv:aW s.heap ρ σ.length r ws)(k:Pr au w A K fs L X F ρ σ s EX m b (vs [])):Pr au w A K fs L X F ρ σ s EX (qR r m) b (vs ws):=by
 induction r using aQ with
 |nil=>(refine il hv.i0 ?_);exact k
 |cons _ _=>exact .no
theorem Pr.more {vs:List az->List az}(hv:aW s.heap ρ σ.length r ws)(k:Pr au w A K fs L X F ρ σ s EX m b (vs []))(k2:∀a r y ws,VR s.heap ρ σ.length a y->aW s.heap ρ σ.length r ws->Pr au w A K fs L X F ρ σ s EX (f a r) b (vs (y::ws))):Pr au w A K fs L X F ρ σ s EX (zw r m f) b (vs ws):=by
 induction r using aQ with
 |nil=>(refine il hv.i0 ?_);exact k
 |cons a r=>refine cj hv.i1 ?_;clear hv;rintro y ws rfl q q2;exact k2 a r y ws q q2
theorem Pr.v {b:az}{vs:List az}{v:V}(hw:W w.params K fs ρ σ s.heap)(h:∀(Q:az->aN->Prop) (E:az->aN->Prop),(∀b tk,VR s.heap ρ σ.length v b->Q b {s with toks:=tk})->wpAny (model au w) A (call b vs) Q E s):Pr au w A K fs L X F ρ σ s EX (rt v) b vs :=
 .now (λZ Z e=>dU e) hw h
theorem Pr.fits {b:az}{vs:List az}{n:Nat}{m:Mo V}(k:n<=16777216->Pr au w A K fs L X F ρ σ s EX m b vs):Pr au w A K fs L X F ρ σ s EX (match fits n with|true=>m|false=>no) b vs:=by
 induction hz:Zq.fits n with
 |false=>exact .no
 |true=>exact k (dA hz)
theorem SS {n:Nat}(h:n<=16777216):¬((n:Int)>=2^63):=by lia
theorem Du {n:Nat}(h:n<=16777216):(n:Int)<2^63:=by lia
theorem oY (x:ak):x.length=x.cps.toList.length:=by simp[l0]
theorem Vs (hw:W w.params K fs ρ σ s.heap)(hv:aW s.heap ρ σ.length av vs):Pr au w A K fs L X F ρ σ s EX (cw .len av) (.builtin "len") vs:=by
 refine .one hv λa y q=>?_;induction a using Zq.V.casesOn with
 |str x =>
  refine oE q ?_;clear q;rintro t rfl;exact .fits λhz=>.v hw λQ E h=>PySem.P.len_str (by rw[oY];exact SS hz) (h _ _ ⟨_,by rw[oY];rfl⟩)
 |tup l =>
  refine dG q ?_;clear q;rintro a ys k rfl e1 e2;obtain e:ys.size=l.length:=by have af:=e2.len;simpa using af
  exact .fits λhz=>.v hw λQ E h=>PyProof.Rows.len_tuple (iG e1) (by rw[e];exact Du hz) (h _ _ ⟨_,by rw[e];rfl⟩)
 |ref i =>
  refine oA q ?_;clear q;rintro hi rfl;refine .gt λl hl=>?_;refine iq (lh hw hl) ?_;rintro _ ys k e1 e2;have e:ys.size=l.length:=by have af:=e2.len;simpa using af
  exact Pr.fits λhz=>.v hw λQ E h=>call_len_list (fR e1) (by rw[e];exact Du hz) (h _ _ ⟨_,by rw[e];rfl⟩)
 |gG l =>
  refine iq q ?_;clear q;rintro rfl ys k e1 e2;have e:ys.size=l.length:=by have af:=Jj e2;simpa using af
  exact .fits λhz=>.v hw λQ E h=>call_len_list (fR e1) (by rw[e];exact Du hz) (h _ _ ⟨_,by rw[e];rfl⟩)
 |_=>exact .no
theorem Ws (hw:W w.params K fs ρ σ s.heap)(hv:aW s.heap ρ σ.length av vs):Pr au w A K fs L X F ρ σ s EX (cw .ord av) (.builtin "ord") vs:=by
 refine .one hv λa y q=>Pr.st (vs:=λy=>[y]) q λx t=>?_;obtain⟨⟨l⟩⟩:=x;induction l using aQ with
 |nil=>exact .no
 |cons c r =>
  induction r using aQ with
  |nil=>exact .v hw λQ E h=>ord_of_one rfl (h _ _ ⟨_,rfl⟩)
  |cons _ _=>exact .no
theorem WE (hw:W w.params K fs ρ σ s.heap)(hv:aW s.heap ρ σ.length av vs):Pr au w A K fs L X F ρ σ s EX (cw .chr av) (.builtin "chr") vs:=by
 refine .one hv λa y q=>Pr.it (vs:=λy=>[y]) q λi t=>?_;induction hz:decide (0<=i/\i<=1114111) with
 |false=>exact .no
 |true =>
  have hz:=of_decide_eq_true hz;exact .v hw λQ E h=>chr_of_range hz.1 hz.2 (h _ _ ⟨_,rfl⟩)
theorem V1 (hn:A.handled=none)(hw:W w.params K fs ρ σ s.heap)(hv:aW s.heap ρ σ.length av vs):Pr au w A K fs L X F ρ σ s EX (cw .max av) (.builtin "max") vs:=by
 refine .two hv λa c r y z ws q1 q2 q3=>Pr.it (vs:=λy=>y::z::ws) q1 λa t=>Pr.it (vs:=λz=>.int a t::z::ws) q2 λb u=>Pr.end_ (vs:=λws=>.int a t::.int b u::ws) q3 ?_;refine .val (λZ Z e=>dU e) hw λQ E h=>max_two_ints hn λh' tk hk=>h _ _ ?_ hk rfl rfl;by_cases hc:b>a
 ·rw[if_pos hc,if_pos hc];exact⟨_,rfl⟩
 ·rw[if_neg hc,if_neg hc];exact⟨_,rfl⟩
theorem VV (hw:W w.params K fs ρ σ s.heap)(hv:aW s.heap ρ σ.length av vs):Pr au w A K fs L X F ρ σ s EX (cw .int av) (.type "int") vs:=by
 refine .one hv λa y q=>?_;induction a using Zq.V.casesOn with
 |int a=>refine oE q ?_;clear q;rintro t rfl;exact .v hw λQ E h=>call_int_int (h _ s.toks ⟨_,rfl⟩)
 |bool a =>
  subst q;exact .v hw λQ E h=>call_int_bool (h _ _ ⟨_,by induction a<;>rfl⟩)
 |_=>exact .no
theorem RI (hs:N0<=s.heap.objs.size)(hw:W w.params K fs ρ σ s.heap)(hv:aW s.heap ρ σ.length av vs):Pr au w A K fs L X F ρ σ s EX (cw .sorted av) (.builtin "sorted") vs:=by
 refine .one hv λa y q=>Pr.ls (vs:=λy=>[y]) hw q λi l ys k hi e1 e2 e=>.aX λns hn=>?_;induction hz:cE ns.length 64 with
 |false=>exact .no
 |true =>
  obtain hz:= yP.mp hz;obtain hI:=ints_of hn e2;obtain fY:=Jj hI;refine .new (o:=.list ((sortI ns).map V.int)) (a:=.ref σ.length) (λr' aj e=>by(refine dX e ?_);exact⟨rfl,rfl⟩) hs hw λQ E h=>?_;refine sorted_ints (vs:=ys.toList) (fR e1) hI (by lia) λs7 ns' a1 a2 a3=>?_;obtain el:=List.Perm.eq_of_pairwise (λa b Z Z h1 h2=>Int.le_antisymm h1 h2) a3 (sortI_rises ns) (a2.trans (sortI_perm ns).symm);clear a2 a3;subst el;refine oE (sortedAll_at s.heap ys.toList s7) ?_;rintro e he;refine h _ (s.heap.objs.size+1) _ (λb o hb=>sortedAll_old hb) (iF _) (cF s7 e he (J8 a1)) ?_ rfl rfl;exact⟨mP _,by rw[fX]⟩
theorem TG (hw:W w.params K fs ρ σ s.heap)(hv:aW s.heap ρ σ.length av vs):Pr au w A K fs L X F ρ σ s EX (cw .range av) (.type "range") vs:=by
 refine .one hv λa y q=>Pr.it (vs:=λy=>[y]) q λn t=>.val (λZ Z e=>dU e) hw λQ E h=>call_range_1 (h _ _ ?_ (λZ Z e=>dF _ e) rfl rfl);show VR _ _ _ (.cm n) _;exact(UA _ _ _ _ rfl (IsRange.new ..))
theorem TJ (hw:W w.params K fs ρ σ s.heap)(hv:aW s.heap ρ σ.length av vs):Pr au w A K fs L X F ρ σ s EX (cw .tuple av) (.type "tuple") vs:=by
 refine .one hv λa y q=>Pr.ls (vs:=λy=>[y]) hw q λi l ys k hi e1 e2 e=>.fits λhz=>.val (λZ Z e=>dU e) hw λQ E h=>call_tuple_list (fR e1) (λh' hk=>?_) (by rw[e];exact hz);have q8:∀b o,s.heap.get? b=some o->(h'.push {cls:=.type "tuple",data:=.seq ys}).get? b=some o:=λb o e=>dF _ (hk b o e);refine h _ _ ?_ q8 rfl rfl;exact(ik _ ys _ rfl (hW _ rfl) (e2.kp ⟨bc _,λZ Z=>rfl,λb o e Z=>q8 b o e,λZ Z e=>q8 _ _ e⟩))
theorem II (x y:ak)(k:Nat):(match occurrences y x k y.length 1 with|k::_=>(k:Int)|[]=>-1)=iQ y x k:=by
 have af:=Jc x y (lo:=k) (hi:=y.cps.toList.length) (bc _);rw[vk]at af;skip;rw[oY];exact af
theorem Uz (hw:W w.params K fs ρ σ s.heap)(hv:aW s.heap ρ σ.length av vs):Pr au w A K fs L X F ρ σ s EX (cw .find av) (.builtin "str.find") vs:=by
 refine .two hv λa c r y z ws q1 q2 q3=>Pr.st (vs:=λy=>y::z::ws) q1 λy t=>Pr.st (vs:=λz=>.str y t::z::ws) q2 λx u=>Pr.more (vs:=λws=>.str y t::.str x u::ws) q3 ?_ λa r v ws q4 q5=>Pr.it (vs:=λv=>.str y t::.str x u::v::ws) q4 λa v =>
  Pr.more (vs:=λws=>.str y t::.str x u::.int a v::ws) q5 ?_ λb r z ws q6 q7=>Pr.it (vs:=λz=>.str y t::.str x u::.int a v::z::ws) q6 λb z=>Pr.end_ (vs:=λws=>.str y t::.str x u::.int a v::.int b z::ws) q7 ?_
 ·obtain kX: Txt.find y x=iQ y x 0:=II x y 0;exact .v hw λQ E h=>SC.find (h _ _ ⟨_,by rw[kX]⟩)
 ·obtain kX: Txt.find3 y x a=iQ y x (n5 a y.cps.toList.length):=by
   unfold Txt.find3;rw[oY,yK,<- oY];exact II x y _
  exact .v hw λQ E h=>SC.find3 (h _ _ ⟨_,by rw[kX]⟩)
 ·obtain kX: (match occurrences y x (fromIndex y.length a) (min (fromIndex y.length b) y.length) 1 with|k::_=>(k:Int)|[]=>-1)=Df y x (n5 a y.cps.toList.length) (bound b y.cps.toList.length):=by
   obtain af:= Jc x y (lo:=n5 a y.cps.toList.length) (hi:=bound b y.cps.toList.length) (IH _ _);unfold Df;rw[oY,yK,yK,Qq];exact af
  exact .v hw λQ E h=>call_gives PJ (typeIs_str _ _ _) PySem.F.entry_str_find (PySem.F.args_str_find_4 _ _ _ _) (Pq y x a b t u v z) (h _ _ ⟨_,by rw[kX]⟩)
theorem Rp (hw:W w.params K fs ρ σ s.heap)(hv:aW s.heap ρ σ.length av vs):Pr au w A K fs L X F ρ σ s EX (cw .startswith av) (.builtin "str.startswith") vs:=by
 refine .two hv λa c r y z ws q1 q2 q3=>Pr.st (vs:=λy=>y::z::ws) q1 λy t=>Pr.st (vs:=λz=>.str y t::z::ws) q2 λx u=>Pr.more (vs:=λws=>.str y t::.str x u::ws) q3 ?_ λa r v ws q4 q5=>Pr.it (vs:=λv=>.str y t::.str x u::v::ws) q4 λa v =>
  Pr.end_ (vs:=λws=>.str y t::.str x u::.int a v::ws) q5 ?_
 ·obtain kX: Txt.startswith y x=nT y x 0:=HT x y 0;exact .v hw λQ E h=>SC.startswith (by rw[kX];exact h _ s.toks rfl)
 ·obtain kX: Txt.startswith3 y x a=nT y x (n5 a y.cps.toList.length):=by
   obtain af:= HT x y (n5 a y.cps.toList.length);unfold Txt.startswith3;rw[yK,<- af,oY]
  exact .v hw λQ E h=>SC.startswith3 (by rw[kX];exact h _ s.toks rfl)
theorem UI (hw:W w.params K fs ρ σ s.heap)(hv:aW s.heap ρ σ.length av vs):Pr au w A K fs L X F ρ σ s EX (cw .endswith av) (.builtin "str.endswith") vs:=by
 refine .two hv λa c r y z ws q1 q2 q3=>Pr.st (vs:=λy=>y::z::ws) q1 λy t=>Pr.st (vs:=λz=>.str y t::z::ws) q2 λx u=>Pr.end_ (vs:=λws=>.str y t::.str x u::ws) q3 ?_;obtain kX: Txt.endswith y x=jH y x:=R5 x y;exact .v hw λQ E h=>SC.endswith (by rw[kX];exact h _ s.toks rfl)
theorem Tv (hs:N0<=s.heap.objs.size)(hw:W w.params K fs ρ σ s.heap)(hv:aW s.heap ρ σ.length av vs):Pr au w A K fs L X F ρ σ s EX (cw .split av) (.builtin "str.split") vs:=by
 refine .two hv λa c r y z ws q1 q2 q3=>Pr.st (vs:=λy=>y::z::ws) q1 λy t=>Pr.st (vs:=λz=>.str y t::z::ws) q2 λx u=>Pr.end_ (vs:=λws=>.str y t::.str x u::ws) q3 ?_;obtain hx:= oY x;induction hc:x.cps.toList using aQ with
 |nil=>exact .no
 |cons c r =>
  refine Pr.fits λhz=>?_;obtain e:=oY y;have hy:(x.length==0)=false:=by rw[hx,hc];rfl
  obtain dv: y.length<=sizeLine:=by rw[sizeLine_eq];lia
  obtain X1: (partsBetween y (occurrences y x 0 y.length (y.length+1)) x.length).length<=sizeLine:=by
   obtain af:= occ_length_le y x 0 y.length (y.length+1);unfold partsBetween;simp only[gK,List.length_zip,dJ,bk,rH];rw[sizeLine_eq];lia
  refine .new (o:=.list ((fa y x).map V.str)) (a:=.ref σ.length) (λr' aj e=>by(refine dX e ?_);exact⟨rfl,rfl⟩) hs hw λQ E h=>?_;have done:∀(l:List (ak×Tok)) (tk:Nat),l.map (·.1)=fa y x->Q (.ref s.heap.objs.size) {s with toks:=tk,heap:=s.heap.push {cls:=.type "list",data:=.seq (strValues l).toArray}}:=λl tk hl=>by
   refine h _ s.heap.objs.size _ (λb o e=>dF _ e) (bc _) (cF _ _ (hW _ rfl) ?_) ?_ rfl rfl
   ·rw[<- hl];exact KI
   ·show VR _ _ _ (.ref σ.length) _;exact⟨mP _,by rw[fX]⟩
  induction h1:(decide (y.length<x.length)||decide (OH y<OH x))
  ·induction hf:(occurrences y x 0 y.length (y.length+1)).isEmpty
   ·refine call_meets A9 (typeIs_str _ _ _) G9 (G7 _ _) (meets_str_split_sep y x t u h1 hy hf dv X1) ?_;rw[strsFrom_eq];exact done (numbered s.toks _) _ ((numbered_texts _ _).trans ((if_neg (by rw[h1];decide)).trans (if_neg (by rw[hf];decide))).symm)
   ·exact call_meets A9 (typeIs_str _ _ _) G9 (G7 _ _) (meets_str_split_not_found y x t u h1 hy hf)
     (done [(y,t)] s.toks ((if_neg (by rw[h1];decide)).trans (if_pos hf)).symm)
  ·exact call_meets A9 (typeIs_str _ _ _) G9 (G7 _ _) (meets_str_split_cannot_occur y x t u h1)
    (done [(y,t)] s.toks (if_pos h1).symm)
theorem UU (hw:W w.params K fs ρ σ s.heap)(hv:aW s.heap ρ σ.length av vs):Pr au w A K fs L X F ρ σ s EX (cw .join av) (.builtin "str.join") vs:=by
 refine .two hv λa c r y z ws q1 q2 q3=>Pr.st (vs:=λy=>y::z::ws) q1 λx t=>.aX λi ei=>?_;refine oA (q2.rv ei) ?_;clear q2;rintro hi rfl;refine Pr.end_ (vs:=λws=>.str x t::.ref (ρ i)::ws) q3 (.gt λl hl=>.aX λss xo=>Pr.fits λhz=>?_);refine iq (lh hw hl) ?_;rintro _ ys k e1 e2;refine aO (Py (BG xo e2)) ?_;rintro m hm1 Y8;refine .v hw λQ E h=>SC.join (l:=m) (texts:=ss) (by rw[<- hm1];exact fR e1) Y8 ?_ λt' k=>h _ _ ⟨t',?_⟩
 ·unfold JoinOk tooLong sizeLine;rw[List.foldl_toArray,xV,decide_eq_false_iff_not];exact d8.mpr hz
 ·rw[RW]
set_option tactic.hygienic true in
theorem SX (hw:W w.params K fs ρ σ s.heap)(hv:aW s.heap ρ σ.length av vs):Pr au w A K fs L X F ρ σ s EX (cw .lower av) (.builtin "str.lower") vs:=by
 refine .one hv λa y q=>Pr.st (vs:=λy=>[y]) q λx t=>?_;show Pr au w A K fs L X F ρ σ s EX (match o7 x.cps.toList [116] with|true=>_|false=>_) _ _;induction hc:o7 x.cps.toList [116] with
 |true =>
  obtain hx:x="t":=by obtain⟨⟨l⟩⟩:=x;rw[show l=[116] from BM.mp hc];decide
  clear hc;(refine il hx ?_);exact .v hw λQ E h=>SC.lower (by decide +kernel) (h _ _ ⟨_,by rw[show Txt.lower "t"="t" from by decide +kernel]⟩)
 |false=>exact .no
theorem Qv (hw:W w.params K fs ρ σ s.heap)(hv:aW s.heap ρ σ.length av vs):Pr au w A K fs L X F ρ σ s EX (cw .replace av) (.builtin "str.replace") vs:=by
 refine .two hv λa c r y z ws q1 q2 q3=>Pr.st (vs:=λy=>y::z::ws) q1 λy t=>Pr.st (vs:=λz=>.str y t::z::ws) q2 λa u=>?_;induction r using aQ with
 |nil=>exact .no
 |cons c r =>
  induction r using aQ with
  |cons _ _=>exact .no
  |nil =>
   refine cj q3.i1 ?_;clear q3;rintro z _ rfl q4 q5;(refine il q5.i0 ?_);refine Pr.st (vs:=λz=>[.str y t,.str a u,z]) q4 λZ v=>?_;induction hc:subIn a.cps.toList y.cps.toList with
   |true=>exact .no
   |false =>
    have ho:=occ_nil_of_no y a (y.length+1) λi hi=>by
     induction hq:subAt y a i with
     |false=>rfl
     |true =>
      obtain af: subIn a.cps.toList y.cps.toList=true:=by
       rw[H8,found_iff];exact(aP i hi hq)
      rw[af]at hc;exact tF hc
    refine .v hw λQ E h=>call_gives Pb (typeIs_str _ _ _) PySem.F.entry_str_replace (PySem.F.args_str_replace_3 _ _ _)
     (gives_str_replace y a _ t u v λhf=>by rw[ho]at hf;simp at hf) ?_
    rw[ho];skip;exact h _ s.toks ⟨_,rfl⟩
theorem JS {r:Rs V}(e:bd (put i o) (λZ=>rt v) σ=some (r,aj)):r=.ok v/\aj=bG σ i o:=by
 refine aG (dM e) (kA ?_) (cK ?_)
 ·clear e;rintro e0 rfl;exact absurd (rU e0).1 (by simp)
 ·rintro c iP e1 e2;refine oA (rU e1) ?_;rintro h1 h2;(refine NA h1 ?_;clear h1);(revert e e1 h2;refine i7 e2 ?_;clear e2 r iP;intro e e1 h2);exact⟨rfl,h2⟩
theorem Rj (hF:F=aI fs)(hw:W w.params K fs ρ σ s.heap)(hv:aW s.heap ρ σ.length av vs):Pr au w A K fs L X F ρ σ s EX (cw .append av) (.builtin "list.append") vs:=by
 refine .two hv λa v r y z ws q1 q2 q3=>.aX λi ei=>?_;refine oA (q1.rv ei) ?_;clear q1;rintro hi rfl;refine Pr.end_ (vs:=λws=>.ref (ρ i)::z::ws) q3 (.gt λl hl=>Pr.fits λhz=>?_);refine iq (lh hw hl) ?_;rintro _ ys k e1 e2;obtain e: ys.size=l.length:=by have af:=e2.len;simpa using af
 obtain dv: ys.size<=sizeLine:=by rw[sizeLine_eq];lia
 refine .turn (o:=.list (l++[v])) (a:=.none) (i:=i) (λr aj e=>JS e) hi hF hw λQ E h=>call_meets Pc (fR e1).typeIs PySem.F.entry_list_append (PySem.F.args_list_append_2 _ _) (list_append (ρ i) ys k z dv) ⟨e1,h _ _ (xM ..) (λkp=>⟨(cF _ _ (ku _ e1 rfl) ?_),rfl⟩) rfl rfl⟩;rw[Array.toList_push];exact(e2.kp kp).app (.one (q2.kp kp))
theorem VD (hF:F=aI fs)(hw:W w.params K fs ρ σ s.heap)(hv:aW s.heap ρ σ.length av vs):Pr au w A K fs L X F ρ σ s EX (cw .pop av) (.builtin "list.pop") vs:=by
 refine .one hv λa y q=>Pr.ls (vs:=λy=>[y]) hw q λi l ys k hi e1 e2 e=>.fits λhz=>.aX λp hp=>?_;obtain⟨l',v⟩:=p;obtain dv: ys.size<=sizeLine:=by rw[sizeLine_eq];lia
 cases J1 hp;refine cj e2.snoc ?_;rintro xs y hy q1 q2;obtain tB: ys=(xs++[y]).toArray:=by rw[<- hy]
 clear e2 hy;subst tB;have hx: (xs++[y]).toArray[(xs++[y]).toArray.size-1]?=some y:=by simp
 refine .turn (o:=.list l') (a:=v) (i:=i) (λr aj e=>JS e) hi hF hw λQ E h=>call_meets PK (fR e1).typeIs PySem.F.entry_list_pop (PySem.F.args_list_pop_1 _) (MeetsSeq.list_pop_last (ρ i) _ k y hx dv) ⟨e1,h _ _ (xM ..) (λkp=>⟨(cF _ _ (ku _ e1 rfl) ?_),q2.kp kp⟩) rfl rfl⟩;obtain af: ((xs++[y]).toArray.eraseIdxIfInBounds ((xs++[y]).toArray.size-1)).toList=xs:=by
  simp only[List.eraseIdxIfInBounds_toArray,Bo,bk,dJ,rH,rM,Nat.add_sub_cancel];rw[List.eraseIdx_append_of_length_le (bc _)];simp
 rw[af];exact q1.kp kp
theorem I8 (rm:Rm A fs d)(hF:F=aI fs)(hw:W w.params K fs ρ σ s.heap)(hv:aW s.heap ρ σ.length av vs):aL (model au w) A w.params K fs L X F ρ σ s EX (cw b av) (call (uC b) vs) RV:=by
 obtain hs:=hw.sz rm.ne;induction b with
 |len=>exact Vs hw hv
 |ord=>exact Ws hw hv
 |chr=>exact WE hw hv
 |max=>exact V1 rm.hn hw hv
 |int=>exact VV hw hv
 |sorted=>exact RI hs hw hv
 |range=>exact TG hw hv
 |tuple=>exact TJ hw hv
 |find=>exact Uz hw hv
 |startswith=>exact Rp hw hv
 |endswith=>exact UI hw hv
 |split=>exact Tv hs hw hv
 |join=>exact UU hw hv
 |replace=>exact Qv hw hv
 |lower=>exact SX hw hv
 |append=>exact Rj hF hw hv
 |pop=>exact VD hF hw hv
end
end Zq
namespace Zq
open PySem PySem.W PySem.Calls PyProof.Rows
structure dY (g h h':bf)(S D:List ax):Prop where
 d:∀b,b∈D->g.get? b=none/\N0<=b/\∀o,h.get? b=some o->(∃vs,o.data=.fields vs)/\¬dE o
 k:∀b o,h.get? b=some o->b∉D->b∉S->h'.get? b=some o
 s:∀b o,b∈S->h.get? b=some o->∃sl,h'.get? b=some {o with slots:=sl}
 l:∀b o,h.get? b=some o->∃o',h'.get? b=some o'
 c:mj h h'
section
variable {P:bA}{K:bz}{fs:List a9}{ρ:Nat->ax}{σ:Sg}{g h h':bf}{S D:List ax}
theorem dY.w (e:dY g h h' (aI fs) D)(w:W P K fs ρ σ h):W P K fs ρ σ h':=by
 have own: ∀i,i<σ.length->∀x,h.get? (ρ i)=some x->h'.get? (ρ i)=some x:=λi hi x hx=>by
  refine e.k _ _ hx (λm=>?_) (λm=>(w.fr.ne m).2 i hi rfl);refine oE (y6 hi) ?_;rintro o ho;obtain q:= w.hr.ob i o ho;refine oA ((e.d _ m).2.2 x hx) ?_;rintro⟨vs,hv⟩ _;clear ho;induction o with
  |inst C d=>refine oA q ?_;rintro _ e';rw[hx]at e';(revert hx hv a;refine dP e' ?_;intro hx hv a);exact nC jB hv rfl
  |dict l=>refine dc q ?_;rintro _ _ e' _;rw[hx]at e';(revert hx hv a;refine dP e' ?_;intro hx hv a);exact nC jB hv rfl
  |list l=>refine dc q ?_;rintro _ _ e' _;rw[hx]at e';(revert hx hv a;refine dP e' ?_;intro hx hv a);exact nC jB hv rfl
  |cell l=>refine aO q ?_;rintro _ ⟨o',e',d⟩ _;rw[hx]at e';(revert d;refine aT e' ?_;intro d);rw[d]at hv;exact nC jB hv rfl
  |told a b=>refine yI q ?_;rintro _ _ o' fd e' c d _;rw[hx]at e';(revert d;refine aT e' ?_;intro d);rw[d]at hv;exact nC jB hv rfl
 have kf:∀b o,h.get? b=some o->dE o->h'.get? b=some o:=λb o hb im=>by
  refine e.k _ _ hb (λm=>((e.d _ m).2.2 o hb).2 im) λm=>?_;refine aO (jQ.mp m) ?_;rintro ah he hl;refine yj (w.fr.ff ah he) ?_;rintro _ L o' h1 h2 h3 h4 es k hd;rw[h1]at hl;(revert h1 h2 h3 h4;refine dP hl ?_;intro h1 h2 h3 h4);rw[hb]at h4;(revert hd;refine aT h4 ?_;intro hd);unfold dE at im;rw[hd]at im;simp at im
 refine⟨⟨λi o ho=>(w.hr.ob i o ho).kp ⟨bc _,λZ Z=>rfl,kf,λZ Z ho=>e.k _ _ ho (λm=>absurd (e.d _ m).2.1 (by decide)) λm=>absurd (w.fr.ne m).1 (by decide)⟩ (own i (bK ho)),w.hr.inj,w.hr.hi⟩,w.ba.keep (λa o h1 Z ho=>e.k a o ho (λm=>absurd (e.d _ m).2.1 (tI h1)) λm=>absurd (w.fr.ne m).1 (tI h1)) (λo ht=>e.k _ _ ht (λm=>absurd (e.d _ m).2.1 (by decide)) λm=>absurd (w.fr.ne m).1 (by decide)) kf,w.fr.keep (λa o m ho=>?_) λa m=>(w.fr.ne m).2⟩
 ·refine oE (e.s a o m ho) ?_;rintro sl hs;refine(aP _ hs ?_);refine aO (jQ.mp m) ?_;rintro ah he hl;refine kB (w.fr.ff ah he) ?_;rintro _ L o' h1 h2 h3 h4 h6;rw[h1]at hl;(revert h1 h2 h3 h4;refine dP hl ?_;intro h1 h2 h3 h4);rw[ho]at h4;(revert h6;refine aT h4 ?_;intro h6);exact h6
theorem dY.tc (e:dY g h h' S D)(st:bL X F cP cQ g ρ n h)(hS:∀b,b∈S->b∈X\/b∈F):bL X F cP cQ g ρ n h':=by
 have gD:∀b o,g.get? b=some o->b∉D:=λb o q m=>by rw[(e.d b m).1]at q;exact nS q
 refine⟨st.le,st.ext,st.new,λc o q=>?_,λb o q h1 h2 h3 h4=>?_,λb o m1 m2 q=>?_⟩
 ·refine oE (st.live c o q) ?_;rintro o' q';exact e.l c o' q'
 ·exact e.k b o (st.keep b o q h1 h2 h3 h4) (gD b o q) λm=>(hS b m).elim h2 h3
 ·refine oE (st.slot b o m1 m2 q) ?_;rintro sl q';by_cases m:b∈S
  ·refine oE (e.s b _ m q') ?_;rintro nM z;exact⟨nM,z⟩
  ·exact⟨sl,e.k b _ q' (gD b o q) m⟩
end
noncomputable def CG:bf:={objs:=#[]}
theorem S6 (b:ax):CG.get? b=none:=get_none (fP _)
theorem nB.Mb {h:bf}{ρ:Nat->ax}(f:∀ah∈fs,FO ah/\∃L o,ah.frame=some L/\N0<=L/\(∀i,i<n->ρ i≠L)/\h.get? L=some o/\(∃es k,o.data=.dict es k)):h.FunFrames CG fs:=by
 induction fs with
 |nil=>trivial
 |cons ah r ih =>
  refine yj (f ah (.head _)) ?_;rintro fo L o h1 h2 h3 h4 es k hd;exact⟨fo.k,(dp L o h1 (S6 L) h4 (λvs z=>by rw[hd]at z;exact nC jB z rfl)),ih λe he=>f e (.tail _ he)⟩
section
variable {M:gT}{A:bZ}{E:az->aN->Prop}{s:aN}
theorem HN {ah:a9}{wz:List a9}{L e:ax}{oe:cI}{vs:Array az}{head:az}{S9:Bool}{Q:Unit->aN->Prop}
 (eW:A.frames=some (ah::wz)) (hl:s.heap.FunFrames CG (ah::wz)) (hf:ah.frame=some L)
 (he:s.heap.get? e=some oe) (hd:oe.data=.fields vs) (dv:1<vs.size)
 (h:∀h' T,s.heap.objs.size<=T->(∀b o,s.heap.get? b=some o->b≠e->b∉aI (ah::wz)->h'.get? b=some o)->(∀b o,b∈aI (ah::wz)->s.heap.get? b=some o->∃sl,h'.get? b=some {o with slots:=sl}) ->
  (∃rj,h'.get? e=some rj/\rj.cls=oe.cls/\rj.dict=oe.dict/\rj.data=.fields (vs.setIfInBounds 1 (.ref T)))->(∃oT ts,h'.get? T=some oT/\oT.cls=.type "traceback"/\oT.data=.fields ts/\ts[3]?=some (rawInt L))->Q () {s with heap:=h'}) :
 wpAny M A (do let a <- frameOf ah;let pl <- entryPlaceOf L S9;let b <- Hg head a .none (rawInt L) .none pl;setField (.ref e) 1 b) Q E s:=by
 have Mc:e∉(ah::wz).filterMap (·.frame):=λhm=>by
  refine Xb (hl.mem hm) ?_;rintro _ o ho xn;rw[he]at ho;injection ho with ho;subst ho;exact xn vs hd
 refine aF (wpAny_frameOf_fun eW hl hf λbU mv=>?_);refine aF (wpAny_entryPlaceOf λpl kU=>?_);skip;refine aF (xZ ?_ (kU.sizeOk5 _ _ _ _ _));obtain DK:=(mv.2.1 e Mc).trans he;obtain wu:=dF (h:=bU) {cls:=.type "traceback",dict:=none,data:=.fields ([head,.ref L,.none,rawInt L,.none]++(if pl.isEmpty then ID 6 fQ else pl)).toArray} DK;refine rL wu hd dv ?_;obtain hTe:=rN (jD DK);obtain DR:=xU hd (·.setIfInBounds 1 (dn bU.objs.size));obtain LC:= ku (mQ (·.setIfInBounds 1 (dn bU.objs.size))) wu (xN DR);obtain VT:= (kr (bU.push {cls:=.type "traceback",dict:=none,data:=.fields ([head,.ref L,.none,rawInt L,.none]++(if pl.isEmpty then ID 6 fQ else pl)).toArray})
  (mQ (·.setIfInBounds 1 (dn bU.objs.size))) (i5 hTe)).trans (hW bU rfl)
 obtain keep:∀b o,b≠e->bU.get? b=some o->((bU.push {cls:=.type "traceback",dict:=none,data:=.fields ([head,.ref L,.none,rawInt L,.none]++(if pl.isEmpty then ID 6 fQ else pl)).toArray}).update e (mQ (·.setIfInBounds 1 (dn bU.objs.size)))).get? b=some o:=λb o xB hb=>by
  rw[kr _ _ (i5 xB)];exact dF _ hb
 refine h _ bU.objs.size (hZ mv.1.symm) (λb o hb xB Z7=>keep b o xB ((mv.2.1 b Z7).trans hb)) (λb o hm hb=>?_) (su _ LC (Bt _ _) ?_ DR) (dp _ _ VT rfl rfl (by simp))
 ·refine oE (mv.2.2 b o hb) ?_;rintro sl hs;exact⟨sl,keep b _ (λz=>Mc (z▸hm)) hs⟩
 ·clear h DR he DK wu LC;obtain⟨c,dd,dt,sl⟩:=oe;dsimp only at hd;subst hd;rfl
end
theorem dY.trans (a:dY g bU dN S MA)(b:dY g dN pv S W5):dY g bU pv S (MA++W5):=by
 refine⟨λc m=>?_,λc o q m1 m2=>?_,λc o m q=>?_,λc o q=>?_,a.c.trans b.c⟩
 ·by_cases m1:c∈MA
  ·exact a.d c m1
  ·obtain m2:=(rJ.mp m).resolve_left m1;refine fp (b.d c m2) ?_;rintro x y z;refine(dg x y (λo q=>?_));by_cases m3:c∈S
   ·refine oE (a.s c o m3 q) ?_;rintro sl q';refine oA (z _ q') ?_;rintro⟨vs,z1⟩ z2;exact⟨⟨vs,z1⟩,λim=>z2 im⟩
   ·exact z _ (a.k c o q m1 m3)
 ·exact b.k c o (a.k c o q (λz=>m1 (xO _ z)) m2) (λz=>m1 (pU _ z)) m2
 ·refine oE (a.s c o m q) ?_;rintro sl q';refine oE (b.s c _ m q') ?_;rintro nM tA;exact⟨nM,tA⟩
 ·refine oE (a.l c o q) ?_;rintro o' q';exact b.l c o' q'
theorem Qe (s:kx a h h')(n:∀o vs,h.get? a=some o->o.data=.fields vs->o.cls≠.ref CF):mj h h':=λb o vs e c d=>by
 by_cases z:b=a
 ·clear s;subst z;exact absurd c (n o vs e d)
 ·exact(dp o vs ((s.2 b z).trans e) c d rfl)
theorem dY.set (hcf:oT.cls≠.ref CF)(hg:g.get? T=none)(hN:N0<=T)(hS:T∉S)(ho:h.get? T=some oT)(hd:oT.data=.fields ts)(hi:¬dE oT):dY g h (h.update T (mQ (·.setIfInBounds i v))) S [T]:=by
 obtain hf:= xN (xU hd (·.setIfInBounds i v));obtain sb:=xM h T (mQ (·.setIfInBounds i v));obtain self:= ku _ ho hf;refine⟨λc m=>?_,λc o q m1 m2=>(sb.2 c λz=>m1 (iD.mpr z)).trans q,λc o m q=>⟨o.slots,(sb.2 c λz=>hS (z▸m)).trans q⟩,λc o q=>?_,Qe sb λo vs e Z=>by rw[ho]at e;(revert Z;refine aT e ?_;clear e o;intro Z);exact hcf⟩
 ·(refine il (iD.mp m) ?_);exact(dg hg hN (λo q=>by rw[ho]at q;(refine aT q ?_;clear q o);exact⟨⟨_,hd⟩,hi⟩))
 ·by_cases z:c=T
  ·clear hN hS hg ho sb;(refine il z ?_);exact⟨_,self⟩
  ·exact⟨o,(sb.2 c z).trans q⟩
theorem qg (h:o'.data=o.data):lookIn name o'=lookIn name o:=by unfold lookIn;rw[h]
theorem tL (h:o.cls=.ref C):¬dE o:=by unfold dE;rw[h];simp
theorem wo {o:cI}(h:o.cls=.type "traceback"):o.cls≠.ref CF:=by rw[h];simp
theorem vM (h:o.cls=.type "traceback"):¬dE o:=by unfold dE;rw[h];simp
section
variable {M:gT}{A:bZ}{E:az->aN->Prop}{s:aN}{P:bA}{K:bz}{fs:List a9}{ρ:Nat->ax}{σ:Sg}{g:bf}
theorem W.tR (w:W P K fs ρ σ h)(ho:h.get? b=some o)(hd:o.data=.fields vs):b∉aI fs:=λm=>by
 refine aO (jQ.mp m) ?_;rintro ah he hl;refine yj (w.fr.ff ah he) ?_;rintro _ L o' h1 h2 h3 h4 es k dZ;rw[h1]at hl;(revert h1 h2 h3 h4;refine dP hl ?_;clear hl L;intro h1 h2 h3 h4);rw[ho]at h4;(revert dZ;refine aT h4 ?_;clear h4 o';intro dZ);rw[hd]at dZ;exact nC jB dZ rfl
theorem yH (e:dY g h h' S D)(gX:h.get? dx=some od)(jw:od.data=.dict es k):∃iA,h'.get? dx=some iA/\iA.data=od.data:=by
 obtain nD: dx∉D:=λm=>by
  refine oA ((e.d _ m).2.2 _ gX) ?_;rintro⟨vs,z⟩ _;rw[jw]at z;exact nC jB z rfl
 by_cases m:dx∈S
 ·refine oE (e.s _ _ m gX) ?_;rintro sl q;exact(aP _ q rfl)
 ·exact(aP od (e.k _ _ gX nD m) rfl)
theorem RJ {ah:a9}{L:ax}{e:az}{Q:Unit->aN->Prop}(eW:A.frames=some (ah::fs))(hf:ah.frame=some L)(w:W P K (ah::fs) ρ σ s.heap)(fl:et g L s.heap e)
 (pC:∀c o,g.get? c=some o->∃o',s.heap.get? c=some o')
 (h:∀h' D,dY g s.heap h' (aI (ah::fs)) D->(∀L',et g L' h' e)->Q () {s with heap:=h'}):wpAny M A (leaving ah e) Q E s:=by
 refine et.casesOn fl ?_;clear fl;rintro a o vs dx es k od rfl hN hg ha hc kK hd gX jw mB kU jO iX;obtain na: ¬dE o:=tL hc;obtain rq: ∀{bU:bf} {D:List ax},dY g s.heap bU (aI (ah::fs)) D->∀T,bU.objs.size<=T->g.get? T=none:=λef T hT=>by
  induction q:g.get? T with
  |none=>rfl
  |some x =>
   refine oE (pC T x q) ?_;rintro o' q';refine oE (ef.l T o' q') ?_;rintro o'' tA;rw[get_none hT]at tA;exact nS tA
 have s7:∀{bU:bf} {D:List ax} {uz oT:cI} {wy ts:Array az} {T:ax},dY g s.heap bU (aI (ah::fs)) D->bU.get? a=some uz->uz.cls=.ref CF->uz.dict=some dx->uz.data=.fields wy->wy[1]?=some (.ref T)->wy[2]?=vs[2]? ->
  N0<=T->g.get? T=none->T≠a->bU.get? T=some oT->oT.cls=.type "traceback"->oT.data=.fields ts->3<ts.size->wpAny M A (setFlight (.ref a) none) Q E {s with heap:=bU}:=λ{bU D uz oT wy ts T} ef kF VE UZ LI Ll VZ jz rq iT hT jd fx h3=>by
  unfold setFlight;refine aF (jE (s:={s with heap:=bU}) kF LI Ll ?_);rw[if_pos (show(dn T != fQ)=true from by simp)];refine rL (s:={s with heap:=bU}) hT fx h3 ?_;have qT:=ef.w w;have e2:=dY.set (wo jd) (g:=g) (S:=aI (ah::fs)) (i:=3) (v:=((none:Option ax).elim fQ λf=>rawInt f)) rq jz (qT.tR hT fx) hT fx (vM jd);have e3:=ef.trans e2;refine h _ _ e3 λL'=>?_;refine aO (yH e3 gX jw) ?_;rintro iA pk j0;have dZ:=xU fx (·.setIfInBounds 3 ((none:Option ax).elim fQ λf=>rawInt f));refine⟨a,uz,wy,dx,es,k,iA,rfl,hN,hg,(kr _ _ iT).trans kF,VE,UZ,LI,pk,j0.trans jw,?_,?_,(let ⟨n,v,q,c⟩:=jO;(cF n v (VZ.trans q) (c.keep e3.c))),.inr (vC T _ _ Ll jz rq iT (ku _ hT (xN dZ)) ((Bt _ _).trans jd) dZ (.inl ?_))⟩
  ·refine fE mB ?_;rintro s' t' q;exact(d7 s' t' ((qg j0).trans q))
  ·refine fE kU ?_;rintro s' t' q;exact(d7 s' t' ((qg j0).trans q))
  ·simp[h3]
 have two:∀{bU:bf} {D:List ax} {head:az} {hn:Bool},bU.get? a=some o->dY g s.heap bU (aI (ah::fs)) D->1<vs.size ->
  wpAny M A (do let fr <- frameOf ah;let pl <- entryPlaceOf L hn;let b <- Hg head fr .none (rawInt L) .none pl;setField (.ref a) 1 b) (λZ tf=>wpAny M A (setFlight (.ref a) none) Q E tf) E {s with heap:=bU}:=λ{bU D head hn} kF ef dv=>by
  have qT:=ef.w w;obtain aS:=qT.tR kF hd;refine HN (s:={s with heap:=bU}) eW (nB.Mb qT.fr.ff) hf kF hd dv λh' T hT k1 k2 ⟨rj,q1,q2,q3,q4⟩ ⟨oT,ts,t1,t2,t3,t4⟩=>?_;obtain iT: T≠a:=λz=>absurd (jD kF) (d8.mpr (z▸hT));obtain e1: dY g bU h' (aI (ah::fs)) [a]:=by
   refine⟨λc m=>?_,λc x q m1 m2=>k1 c x q (λz=>m1 (iD.mpr z)) m2,k2,λc x q=>?_,λc x xs q qc qd=>?_⟩
   ·(refine il (iD.mp m) ?_);exact(dg hg hN (λx q=>by rw[kF]at q;(refine aT q ?_;clear q x);exact⟨⟨_,hd⟩,na⟩))
   ·by_cases z:c=a
    ·clear aS h hN iT ha kF hg iX k1 s7;(refine il z ?_);exact⟨_,q1⟩
    ·by_cases m:c∈aI (ah::fs)
     ·refine oE (k2 c x m q) ?_;rintro sl q';exact⟨_,q'⟩
     ·exact⟨x,k1 c x q z m⟩
   ·by_cases z:c=a
    ·clear aS h hN iT ha hg iX k1 s7;subst z;rw[kF]at q;(revert qc qd;refine aT q ?_;intro qc qd);rw[hd]at qd;cases qd;exact(dp _ _ q1 (q2.trans qc) q4 (by simp))
    ·by_cases m:c∈aI (ah::fs)
     ·refine oE (k2 c x m q) ?_;rintro sl q';exact(dp _ xs q' qc qd rfl)
     ·exact(dp x xs (k1 c x q z m) qc qd rfl)
  obtain jz:=bC (qT.sz (by simp)) hT;exact s7 (ef.trans e1) q1 (q2.trans hc) (q3.trans kK) q4 (by simp[dv]) (by simp) jz (rq ef T hT) iT t1 t2 t3 (oG.mp t4).1
 have e0:dY g s.heap s.heap (aI (ah::fs)) []:=⟨λZ m=>(nomatch m),λZ Z q Z Z=>q,λZ x Z q=>⟨x.slots,q⟩,λZ x q=>⟨x,q⟩,.refl _⟩;unfold leaving noteFrame;simp only[hf];refine aG iX ?_ (yb ?_)
 ·intro h1;refine aF (aF (jE ha hd h1 ?_));rw[if_neg (by decide)];exact two ha e0 (oG.mp h1).1
 rintro T oT ts h1 jz n9 iT hT jd fx h3;refine aF (aF (jE ha hd h1 ?_));rw[if_pos (show(dn T != fQ)=true from by simp)];refine aG h3 ?_ ?_
 ·intro h3;refine aF (jE hT fx h3 ?_);rw[if_neg (show ¬((fQ==rawInt L)=true) from by simp[rawInt])];refine aF (rL hT fx (oG.mp h3).1 ?_);exact two ((kr _ _ iT).trans ha) (dY.set (wo jd) (i:=3) (v:=.none) n9 jz (w.tR hT fx) hT fx (vM jd)) (oG.mp h1).1
 ·intro h3;refine aF (jE hT fx h3 ?_);rw[if_pos (by simp)];exact bq (s7 e0 ha hc kK hd h1 rfl jz n9 iT hT jd fx (oG.mp h3).1)
end
theorem Bl {α β:Type}:∀(ps:List α) (vs ds:List β),ps.zip (vs++ds)=ps.zip vs++(ps.drop vs.length).zip ds
 |[],vs,ds=>by simp
 |p::ps,[],ds=>by simp
 |p::ps,v::vs,ds=>by simp[Bl ps vs ds]
theorem OP {ps:List ak}{vs:List az}(h:n∉ps):(ps.zip vs).lookup n=none:=by
 induction ps generalizing vs with
 |nil=>rfl
 |cons p ps ih =>
  induction vs using aQ with
  |nil=>rfl
  |cons v vs =>
   rw[rC,gh];obtain af: (n==p)=false:=beq_eq_false_iff_ne.mpr λe=>h (e▸.head _);rw[af];exact ih λm=>h (.tail _ m)
theorem Ha {ps:List ak}{vs:List az}(h:n∈ps.take vs.length):((ps.zip vs).lookup n).isSome=true:=by
 induction ps generalizing vs with
 |nil=>simp at h
 |cons p ps ih =>
  induction vs using aQ with
  |nil=>simp at h
  |cons v vs =>
   rw[rC,gh];induction q:(n==p) with
   |true=>rfl
   |false =>
    simp only[dJ,List.take_succ_cons,cU]at h;refine aG h ?_ ?_
    ·clear h;rintro rfl;simp at q
    ·clear h;rintro h;exact ih h
theorem lookup_append {l r:List (ak×az)}:(l++r).lookup n=(l.lookup n).or (r.lookup n):=by
 induction l with
 |nil=>simp
 |cons a l ih =>
  obtain⟨k,v⟩:=a;rw[vj,gh,gh];induction n==k<;>simp[ih]
theorem Jl {α β:Type}{f g:α->Option β}:∀{l:List α},(∀a∈l,f a=g a)->l.filterMap f=l.filterMap g
 |[],_=>rfl
 |a::l,h=>by
  rw[oM,oM,h a (.head _),Jl λb hb=>h b (.tail _ hb)]
theorem Hm:∀{ps:List ak} {vs:List az},ps.Nodup->vs.length=ps.length->ps.filterMap (λn=>((ps.zip vs).lookup n).map λv=>(n,v))=ps.zip vs
 |[],_,_,_=>rfl
 |p::ps,[],_,h=>by simp at h
 |p::ps,v::vs,nd,h=>by
  refine oA (jS.mp nd) ?_;rintro h1 h2;rw[oM,rC,gh];simp only[beq_self_eq_true,Option.map_some]
  congr 1
  refine(Jl (g:=λn=>((ps.zip vs).lookup n).map λv=>(n,v)) λn hn=>?_).trans (Hm h2 (by simpa using h));rw[gh];obtain af: (n==p)=false:=beq_eq_false_iff_ne.mpr λe=>h1 (e▸hn);rw[af]
noncomputable def lD:List (ak×az)->List (ak×az)->List (ak×az)
 |slots,[]=>slots
 |slots,(n,d)::r=>lD (if (slots.lookup n).isNone then slots++[(n,d)] else slots) r
theorem QA (h:∀x∈l,(slots.lookup x.1).isSome=true):lD slots l=slots:=by
 induction l with
 |nil=>rfl
 |cons a l ih =>
  obtain⟨n,d⟩:=a;dsimp only[lD];obtain af:= h (n,d) (.head _);rw[if_neg (by simp only[A7];intro z;rw[z]at af;exact fT af)];exact ih λx hx=>h x (.tail _ hx)
theorem QN:lD slots (l++r)=lD (lD slots l) r:=by
 induction l generalizing slots with
 |nil=>rfl
 |cons a l ih=>obtain⟨n,d⟩:=a;exact ih
theorem QU:∀{slots},(∀x∈l,slots.lookup x.1=none)->(l.map (·.1)).Nodup->lD slots l=slots++l:=by
 induction l with
 |nil=>intro slots _ _;exact(di _).symm
 |cons a l ih =>
  intro slots h nd;obtain⟨n,d⟩:=a;refine oA (jS.mp nd) ?_;rintro h1 h2;dsimp only[lD];obtain af:= h (n,d) (.head _);(rewrite[if_pos (by(rewrite[af];try(with_reducible rfl));rfl),ih (λx hx=>?_) h2];try(with_reducible rfl))
  ·simp
  ·(rewrite[lookup_append,h x (.tail _ hx),Option.none_or,gh];try(with_reducible rfl));obtain af: (x.1==n)=false:=beq_eq_false_iff_ne.mpr λe=>h1 (e▸rA (f:=(·.1)) hx);rw[af];rfl
theorem Jo {α β:Type}:∀(ps:List α) (vs:List β),ps.zip vs=(ps.take vs.length).zip vs
 |[],vs=>by simp
 |p::ps,[]=>by simp
 |p::ps,v::vs=>by simp[<- Jo ps vs]
theorem S7 {ps:List ak}(nd:ps.Nodup)(h1:vs.length<=ps.length)(h2:ds.length<=ps.length)(h3:ps.length-ds.length<=vs.length):lD (ps.zip vs) ((ps.drop (ps.length-ds.length)).zip ds)=ps.zip (vs++ds.drop (vs.length-(ps.length-ds.length))):=by
 obtain e: ds=ds.take (vs.length-(ps.length-ds.length))++ds.drop (vs.length-(ps.length-ds.length)):=(tC _ _).symm
 conv=>lhs;arg 2;arg 2;rw[e]
 have hl:(ds.take (vs.length-(ps.length-ds.length))).length=vs.length-(ps.length-ds.length):=by rw[pY];exact nP (by rw[EN h2];exact Ey (by rw[vH];exact Nat.add_le_add_right h1 _))
 obtain hd: (ps.drop (ps.length-ds.length)).drop (vs.length-(ps.length-ds.length))=ps.drop vs.length:=by rw[tJ];congr 1;exact zT h3
 obtain i1: lD (ps.zip vs) ((ps.drop (ps.length-ds.length)).zip (ds.take (vs.length-(ps.length-ds.length))))=ps.zip vs:=QA λx hx=>by
  refine Ha ?_;rw[List.zip_eq_zip_take_min]at hx;obtain m:= (HZ (a:=x.1) (b:=x.2) hx).1;rw[hl]at m;obtain m2:=Pk _ (HX _ _) m;rw[List.take_drop,show ps.length-ds.length+(vs.length-(ps.length-ds.length))=vs.length from zT h3]at m2;exact List.mem_of_mem_drop m2
 rw[Bl,QN,hl,hd,i1,QU,Bl]
 ·intro x hx;obtain m:=(HZ (a:=x.1) (b:=x.2) hx).1;rw[Jo];refine OP λm'=>?_;rw[<- tC vs.length ps]at nd;exact(List.nodup_append.mp nd).2.2 _ m' _ m rfl
 ·obtain af: ((ps.drop vs.length).zip (ds.drop (vs.length-(ps.length-ds.length)))).map (·.1)=ps.drop vs.length:=by
   rw[Bw];simp only[nN];exact Ey (hZ (Ld h1 h2 h3).symm)
  rw[af];exact nd.sublist (List.drop_sublist _ _)
section
variable {M:gT}{A:bZ}{E:az->aN->Prop}{s:aN}
set_option tactic.hygienic true in
theorem B4 (f:ak×az->List (ak×az)->Sem (ForInStep (List (ak×az))))(hf:∀n d sl,f (n,d) sl=if (sl.lookup n).isNone then pure (.yield (sl++[(n,d)])) else pure (.yield sl)) :
 ∀(l slots:List (ak×az)) (Q:List (ak×az)->aN->Prop),Q (lD slots l) s->wpAny M A (forIn l slots f) Q E s
 |[],slots,Q,h=>by rw[List.forIn_nil];exact bq h
 |(n,d)::l,slots,Q,h=>by
  rw[vp,hf];dsimp only[lD]at h;split
  ·rename_i q;rw[if_pos q]at h;exact aF (bq (B4 f hf l _ Q h))
  ·rename_i q;rw[if_neg q]at h;exact aF (bq (B4 f hf l _ Q h))
end
theorem Sd:∀{p},qr p=true->∃ag kd df,p=⟨[],ag,none,[],kd,none,df⟩
 |⟨po,ag,va,ko,kd,kw,df⟩,hp=>by
  unfold qr at hp;simp only[cc,xY,A7]at hp;refine oA hp ?_;clear hp;rintro⟨⟨rfl,rfl⟩,rfl⟩ rfl;exact zQ ag kd df rfl
theorem Sv {fd:FuncData}(nd:(ag.map (·.arg)).Nodup)(hd:∀(M:gT) (A:bZ) (E:az->aN->Prop) (Q:Option (Array az)->aN->Prop),(∀o,(o.getD #[]).toList=ds->Q o s)->wpAny M A (seqItems? fd.defaults) Q E s)(h1:jM.length<=(ag.map (·.arg)).length)(h2:ds.length<=(ag.map (·.arg)).length)(h3:(ag.map (·.arg)).length-ds.length<=jM.length):BindsTo s {fd with params:=⟨[],ag,none,[],kd,none,df⟩} ⟨jM,[]⟩ ((ag.map (·.arg)).zip (jM++ds.drop (jM.length-((ag.map (·.arg)).length-ds.length)))):=by
 intro M A E Q hq;unfold bindArgs;dsimp only[List.map_nil,vt,List.forIn_nil];refine aF (bq (aF (hd _ _ _ _ λo ho=>?_)));generalize ag.map (·.arg)=ps at *;rw[ho];obtain d0: ds.drop (ds.length-ps.length)=ds:=by rw[show ds.length-ps.length=0 from vf h2];rfl
 obtain g0: ¬((decide (jM.length>ps.length)&&(none:Option Arg).isNone)=true):=λh=>tI (of_decide_eq_true ((jP.mp h).1)) h1;obtain m0: (ps.take (ps.length-ds.length)).filter (λn=>((ps.zip jM).lookup n).isNone)=[]:=by
  rw[List.filter_eq_nil_iff];intro n hn;obtain af:=Ha (Pk _ h3 hn);simp only[A7];intro z;rw[z]at af;exact fT af
 rw[d0];refine Jy (decide_eq_false g0) (Jy (decide_eq_false (by dsimp only;rw[m0];simp)) ?_);refine aF (B4 _ (λn d sl=>rfl) _ _ _ (aF (bq (Jy (decide_eq_false (by simp)) (bq ?_)))));show Q (List.filterMap (λn=>Option.map (λx=>(n,x)) (List.lookup n (lD (ps.zip jM) ((List.drop (ps.length-ds.length) ps).zip ds)))) (ps++[])) _;rw[di,S7 nd h1 h2 h3,Hm nd]
 ·exact hq
 ·rw[bk,nN];exact Ld h1 h2 h3
theorem Cn (hp:qr fd.params=true)(nd:(fd.params.args.map (·.arg)).Nodup)(hd:∀(M:gT) (A:bZ) (E:az->aN->Prop) (Q:Option (Array az)->aN->Prop),(∀o,(o.getD #[]).toList=ds->Q o s)->wpAny M A (seqItems? fd.defaults) Q E s)(h1:jM.length<=(fd.params.args.map (·.arg)).length)(h2:ds.length<=(fd.params.args.map (·.arg)).length)(h3:(fd.params.args.map (·.arg)).length-ds.length<=jM.length):BindsTo s fd ⟨jM,[]⟩ ((fd.params.args.map (·.arg)).zip (jM++ds.drop (jM.length-((fd.params.args.map (·.arg)).length-ds.length)))):=by
 refine wY (Sd hp) ?_;rintro ag kd df hp;have e:fd={fd with params:=⟨[],ag,none,[],kd,none,df⟩}:=by rw[<- hp]
 rw[hp]at nd h1 h2 h3 ⊢;rw[e];exact Sv nd hd h1 h2 h3
noncomputable def LV (K:bz)(dV:az)(ds:List az):Prop:=(dV=.none/\ds=[])\/∃T o k,dV=.ref T/\K.lookup T=some o/\o.data=.seq ds.toArray k
structure my (K:bz)(a:ax)(fi:FI):Prop where
 k:fi.scope.kind=.function
 co:fi.scope.isCoroutine=false
 gen:fi.scope.isGenerator=false
 nd:fi.ps.Nodup
 par:∀x∈fi.ps,bI x fi.scope=some .local\/bI x fi.scope=some .cell
 snd:(fi.scope.names.map (·.1)).Nodup
 nm:∀x q,bI x fi.scope=some q->(x==("__debug__":ak))=false/\(x==("__classdict__":ak))=false
 ex:∃oc od fd iU,K.lookup a=some ⟨oc,od,.func fd,iU⟩/\fd.scope=fi.scope/\fd.body=.stmts fi.body/\codeIn K fd.code fd.qualname=true/\fd.closure=[]/\fd.globals=mainGlobals/\fd.builtins=builtinsNs /\
  qr fd.params=true/\fd.params.args.map (·.arg)=fi.ps/\∃ds,fi.df.length<=fi.ps.length/\LV K fd.defaults ds/\∀h ρ n,aW h ρ n fi.df ds
theorem yd:∀{a:List α} {b:List β},fb a b=true->a.length=b.length
 |[],[],_=>rfl
 |[],_::_,h=>by exact fT h
 |_::_,[],h=>by exact fT h
 |_::a,_::b,h=>congrArg (·+1) (yd (a:=a) (b:=b) h)
set_option tactic.hygienic true in
theorem BY:∀{ps} {vs} {b},jr ps vs df=some b ->
 b=ps.zip (vs++df.drop (df.length+vs.length-ps.length))/\vs.length<=ps.length/\ps.length<=df.length+vs.length
 |[],[],b,e=>by dsimp only[jr]at e;(refine aT e ?_);simp
 |[],_::_,b,e=>by dsimp only[jr]at e;exact nS e
 |x::ps,[],b,e=>by
  dsimp only[jr]at e;split at e
  ·rename_i h;(refine aT e ?_);obtain af:= yd h;rw[nN]at af;refine(dg (by simp) (by simp) ?_);simp only[dJ,rH]at af ⊢;rw[af];exact yO _ _
  ·exact nS e
 |x::ps,v::vs,b,e=>by
  dsimp only[jr]at e;refine aO (mO.mp e) ?_;clear e;rintro b' e1 rfl;refine fp (BY e1) ?_;rintro h1 h2 h3;(refine ir h1 ?_);refine(dg ?_ (by simpa using h2) (by simp only[dJ];lia));simp only[dJ,vj,rC]
  congr 4
  lia
theorem aW.drop:∀(k:Nat) {l} {xs},aW h ρ n l xs->aW h ρ n (l.drop k) (xs.drop k)
 | 0,_,_,q=>q
 |k+1,[],xs,q=>by(refine il q.i0 ?_);exact .nil
 |k+1,v::l,xs,q=>by
  refine cj q.i1 ?_;clear q;rintro y r rfl _ q2;exact q2.drop k
set_option tactic.hygienic true in
theorem Ds:∀{ps:List ak} {l} {xs} {v},aW h ρ n l xs->lk x (ps.zip l)=some v->∃y,(x,y)∈ps.zip xs/\VR h ρ n v y
 |[],_,_,_,_,e=>by exact nS e
 |p::ps,[],_,_,_,e=>by exact nS e
 |p::ps,u::l,xs,v,q,e=>by
  refine cj q.i1 ?_;clear q;rintro y r rfl q1 q2;rw[rC,fA]at e;split at e
  ·rename_i h;(refine aT e ?_;clear e v);rw[h];exact(aP y (.head _) q1)
  ·refine aO (Ds q2 e) ?_;rintro z m hz;exact(aP z (.tail _ m) hz)
set_option tactic.hygienic true in
theorem HB:∀{ps:List ak} {l:List V},lk x (ps.zip l)=none->l.length=ps.length->x∉ps
 |[],_,_,_=>λm=>nomatch m
 |p::ps,[],_,e=>by cases e
 |p::ps,u::l,h,e=>by
  rw[rC,fA]at h;split at h
  ·exact sN h
  ·rename_i gJ;intro m;refine aG (cU.mp m) ?_ ?_
   ·rintro rfl;exact gJ rfl
   ·rintro m;exact HB h (by simpa using e) m
theorem Ii {kindOf:ak->Option lu}:∀{l} {m},x∉l.map (·.1)->bindL kindOf l m x=m x
 |[],m,_=>rfl
 |(n,v)::r,m,h=>by
  skip;obtain h1: x≠n:=λe=>h (e▸.head _);rw[Ii λq=>h (.tail _ q)];split<;>simp[h1]
theorem Jm {kindOf:ak->Option lu}(hk:kindOf x=some .local):∀{l} {m},(l.map (·.1)).Nodup->(x,y)∈l->bindL kindOf l m x=some y
 |(n,v)::r,m,nd,h=>by
  refine oA (jS.mp nd) ?_;rintro n1 n2;unfold bindL;refine aG (cU.mp h) ?_ ?_
  ·rintro e;(clear nd h;revert n1;refine Mx e ?_;clear e n v;intro n1);rw[Ii n1,if_pos hk];simp
  ·rintro h;exact Jm hk n2 h
theorem B7 {kindOf:ak->Option lu}:∀{l} {m},x∉l.map (·.1)->bindC kindOf l m x=m x
 |[],m,_=>rfl
 |(n,v)::r,m,h=>by
  skip;obtain h1: x≠n:=λe=>h (e▸.head _);rw[B7 λq=>h (.tail _ q)];split<;>simp[h1]
theorem I0 {kindOf:ak->Option lu}(hk:kindOf x≠some .local):∀{l} {m},(l.map (·.1)).Nodup->(x,y)∈l->bindC kindOf l m x=some y
 |(n,v)::r,m,nd,h=>by
  refine oA (jS.mp nd) ?_;rintro n1 n2;unfold bindC;refine aG (cU.mp h) ?_ ?_
  ·rintro e;(clear nd h;revert n1;refine Mx e ?_;clear e n v;intro n1);rw[B7 n1,if_neg hk];simp
  ·rintro h;exact I0 hk n2 h
noncomputable def idx:List ak->Nat->List (ak×Nat)
 |[],_=>[]
 |x::r,k=>(x,k)::idx r (k+1)
theorem HM (b:List (ak×V)):∀(l:List ak) (σ:Sg),mU b l σ=some (.ok (idx l σ.length),σ++l.map λx=>O.cell (lk x b))
 |[],σ=>congrArg (λz=>some (Rs.ok [],z)) (di σ).symm
 |x::r,σ=>by
  show bd (mU b r) (λl=>rt ((x,σ.length)::l)) (σ++[.cell (lk x b)])=_;unfold bd;rw[HM b r,bk,bM];rfl
noncomputable def mV:List (ak×lu)->List ak:=λl=>l.filterMap λp=>match p.2 with
 |.cell=>some p.1
 |_=>none
theorem Bq:∀(l:List (ak×lu)) (n:Nat) (aA:List (ak×ax)),cellsFrom n l aA=(idx (mV l) n).reverse++aA
 |[],n,aA=>rfl
 |(x,k)::r,n,aA=>by
  induction k with
  |cell =>
   show cellsFrom (n+1) r ((x,n)::aA)=((x,n)::idx (mV r) (n+1)).reverse++aA;rw[Bq r,tE,bM];rfl
  |_=>exact Bq r n aA
set_option tactic.hygienic true in
theorem JO:∀{l} {a i} (b:Nat),lk x (idx l a)=some i->∃j,j<l.length/\i=a+j/\lk x (idx l b)=some (b+j)/\ay l j=some x
 |[],_,_,_,e=>by exact nS e
 |y::l,a,i,b,e=>by
  dsimp only[idx]at e ⊢;rw[fA]at e ⊢;split at e
  ·rename_i h;(refine aT e ?_;clear e i);rw[if_pos h];exact(su 0 (by simp) rfl rfl (by rw[h];rfl))
  ·rename_i h;rw[if_neg h];refine qD (JO (b+1) e) ?_;rintro j h1 h2 h3 h4;exact(su (j+1) (by simpa using h1) (by lia) (by rw[h3];congr 1;lia) h4)
theorem yF:∀(l:List ak) (n:Nat),(idx l n).map (·.1)=l
 |[],_=>rfl
 |x::l,n=>by skip;rw[nQ,yF l]
theorem CX:∀{l} {j} {x:α},ay l j=some x->x∈l
 |[],_,_,e=>by exact nS e
 |a::l,0,_,e=>by(refine aT e ?_;clear e);exact .head _
 |a::l,j+1,_,e=>.tail _ (CX (l:=l) (j:=j) e)
theorem vF {α:Type}:∀{l:List (ak×α)},(l.map (·.1)).Nodup->l.reverse.lookup x=l.lookup x
 |[],_=>rfl
 |(y,a)::r,nd=>by
  refine oA (jS.mp nd) ?_;rintro n1 n2;obtain app: ∀(p q:List (ak×α)),(p++q).lookup x=(p.lookup x).or (q.lookup x):=λp q=>by
   induction p with
   |nil=>simp
   |cons a p ih =>
    obtain⟨k,v⟩:=a;rw[vj,gh,gh];induction x==k<;>simp[ih]
  rw[tE,app,vF n2,gh];by_cases h:x=y
  ·clear nd;subst h;have af:r.lookup x=none:=by
    induction q:r.lookup x with
    |none=>rfl
    |some v=>exact absurd (rA (f:=(·.1)) (mem_of_lookup q)) n1
   rw[af];simp[gh]
  ·have af:(x==y)=false:=beq_eq_false_iff_ne.mpr h;simp only[gh,af,List.lookup_nil,Option.or_none]
section
variable {P:bA}{K:bz}{fs:List a9}{ρ:Nat->ax}{σ:Sg}{h:bf}
theorem W.push (w:W P K fs ρ σ h)(fo:FO ah)(hf:ah.frame=some L)(hN:N0<=L)(gJ:∀i,i<σ.length->ρ i≠L)(ho:h.get? L=some o)(hd:o.data=.dict es k)(hL:L∉aI fs):W P K (ah::fs) ρ σ h:=by
 refine⟨w.hr,w.ba,⟨λe he=>?_,?_⟩⟩
 ·refine aG (cU.mp he) ?_ ?_
  ·rintro rfl;exact⟨fo,L,o,hf,hN,gJ,ho,es,k,hd⟩
  ·rintro he;exact w.fr.ff e he
 ·unfold aI;rw[oM,hf];exact jS.mpr ⟨hL,w.fr.nd⟩
theorem W.pop (w:W P K (ah::fs) ρ σ h):W P K fs ρ σ h:=by
 refine⟨w.hr,w.ba,⟨λe he=>w.fr.ff e (.tail _ he),?_⟩⟩;obtain af:= w.fr.nd;unfold aI at af;rw[oM]at af;split at af
 ·exact af
 ·exact(jS.mp af).2
noncomputable def zr (h:bf)(ρ:Nat->ax)(n:Nat):Option V->Option az->Prop
 |none,none=>True
 |some v,some x=>VR h ρ n v x
 |_,_=>False
theorem zr.kp (k:Kp h ρ n h' aJ n')(q:zr h ρ n v x):zr h' aJ n' v x:=by
 induction v<;>induction x<;>first|trivial|exact VR.kp k q|exact q.elim
theorem W.cells:∀(xh:List (Option V)) {ρ} {σ} {base},W P K fs ρ σ h->N0<=base->(∀i,i<σ.length->ρ i<base)->(∀a,a∈aI fs->a<base) ->
 (∀j v,ay xh j=some v->∃x,h.IsCell (base+j) x/\zr h ρ σ.length v x) ->
 ∃aJ,W P K fs aJ (σ++xh.map O.cell) h/\(∀i,i<σ.length->aJ i=ρ i)/\(∀j,j<xh.length->aJ (σ.length+j)=base+j)
 |[],ρ,σ,base,w,_,_,_,_=>(cO ρ (by simpa using w) (λZ Z=>rfl) (λj hj=>nomatch hj))
 |v::xh,ρ,σ,base,w,hN,h1,h2,h3=>by
  refine aO (h3 0 v rfl) ?_;rintro x ⟨o,ho,hd⟩ hx;have kp:Kp h ρ σ.length h (up ρ σ.length base) (σ.length+1):=⟨iF _,λi hi=>fV hi,λZ Z e Z=>e,λZ Z e=>e⟩;obtain w1: W P K fs (up ρ σ.length base) (σ++[O.cell v]) h:=by
   refine w.MJ (λZ Z e=>e) hN (λi hi=>iE (h1 i hi)) (λm=>qe _ (h2 _ m)) ?_;refine⟨x,(aP o ho hd),?_⟩;obtain af:= hx.kp kp;induction v<;>induction x<;>first|trivial|exact af|exact af.elim
  have hl:(σ++[O.cell v]).length=σ.length+1:=by simp
  refine cy (W.cells xh (base:=base+1) w1 (tG hN) (λi hi=>by
   rw[hl]at hi;by_cases q:i<σ.length
   ·rw[fV q];exact tH (h1 i q)
   ·obtain af: i=σ.length:=by lia
    clear hi q;(refine ir af ?_);rw[fX];exact mP _) (λa m=>tH (h2 a m)) λj u hu=>by
   refine aO (h3 (j+1) u hu) ?_;rintro y c1 c2;refine(aP y ?_ ?_)
   ·rw[show base+1+j=base+(j+1) from Nat.succ_add base j];exact c1
   ·rw[hl];exact c2.kp kp) ?_
  rintro aJ w2 a b;refine(cO aJ (by simpa using w2) (λi hi=>?_) (λj hj=>?_))
  ·rw[a i (by rw[hl];lia),fV hi]
  ·induction j using eO with
   |zero=>rw[jT,a σ.length (by rw[hl];lia),fX];rfl
   |succ j =>
    obtain af:= b j (by simpa using hj);rw[hl]at af;rw[show σ.length+(j+1)=σ.length+1+j by lia,af];exact Nat.succ_add base j
end
noncomputable def sk (sf:Jb->Mo An)(fi:FI)(d':Nat)(av:List V):Mo V:=bd (aX (jr fi.ps av fi.df)) λb =>
 bd (mU b (dS fi.scope)) λcs =>
 bd (sF sf (.ss {sc:=fi.scope,loc:=b.filter (λp=>!mi (dS fi.scope) p.1),cz:=cs,d:=d',ro:=fi.ro} fi.body)) λr=>(match r.1 with
  |.next=>rt .none
  |.ret v=>rt v
  |.brk=>no)
theorem Po:mi l x=true↔x∈l:=by
 unfold mi;rw[Bv];constructor
 ·rintro⟨y,h,e⟩;rw[eh.mp e];exact h
 ·intro h;exact(aP x h (BI x))
theorem BC:∀{l},(l.map (·.1)).Nodup->(x∈mV l↔l.lookup x=some .cell)
 |[],_=>by simp[mV]
 |(y,k)::r,nd=>by
  refine oA (jS.mp nd) ?_;rintro n1 n2;obtain ih:=BC (x:=x) n2;rw[gh];by_cases hx:x=y
  ·clear nd;subst hx;obtain xb:x∉mV r:=λm=>by
    rw[ih]at m;exact n1 (rA (f:=(·.1)) (mem_of_lookup m))
   unfold mV at xb ⊢;induction k<;>simp[oM,xb]
  ·obtain hb: (x==y)=false:=beq_eq_false_iff_ne.mpr hx;rw[hb];skip;rw[<- ih];unfold mV;clear n1 nd;induction k<;>simp[oM,hx]
theorem Ho:∀{l},(l.map (·.1)).Nodup->(mV l).Nodup
 |[],_=>by simp[mV]
 |(y,k)::r,nd=>by
  refine oA (jS.mp nd) ?_;rintro n1 n2;obtain ih:=Ho n2;obtain xb: y∉mV r:=λm=>by
   rw[BC n2]at m;exact n1 (rA (f:=(·.1)) (mem_of_lookup m))
  unfold mV at ih xb ⊢;rw[oM];clear n1 nd;induction k<;>first|exact ih|exact jS.mpr ⟨xb,ih⟩
theorem Bm (nd:(sc.names.map (·.1)).Nodup):x∈dS sc↔bI x sc=some .cell:=by
 unfold bI;rw[iY];exact BC nd
theorem OM (nd:(sc.names.map (·.1)).Nodup):(dS sc).Nodup:=Ho nd
theorem JD:∀{l:List α} {j} {v},ay (l.map f) j=some v->∃x,ay l j=some x/\v=f x
 |[],_,_,h=>by exact nS h
 |a::l,0,_,h=>by(refine aT h ?_;clear h);exact(aP a rfl rfl)
 |a::l,j+1,_,h=>JD (l:=l) (j:=j) h
theorem sh (e:sF sf j σ=some (r,aj)):(r=.exc/\sf j σ=some (.exc,aj))\/∃fl cg,r=.ok (fl,cg)/\sf j σ=some (.ok (.f fl cg),aj):=by
 skip;refine aG (dM e) (kA ?_) (cK ?_)
 ·rintro e0 h;exact .inl ⟨by first|exact e0|exact h,by first|exact h|exact e0⟩
 ·rintro c iP e1 e2;induction c<;>first|((refine dX e2 ?_);exact .inr (cF _ _ rfl e1))|exact nS e2
section
variable {au:cB}{w:bw}{K:bz}{sf:Jb->Mo An}{A:bZ}{fs:List a9}{L:ax}{ρ:Nat->ax}{σ:Sg}{s:aN}
noncomputable def Lx (r:Fl×Fm):Mo V:=match r.1 with
 |.next=>rt .none
 |.ret v=>rt v
 |.brk=>no
theorem Wl (e:bd (sF sf (.ss U body)) Lx σ=some (r,aj)):∃r1,sf (.ss U body) σ=some (r1,aj)/\((r1=.exc/\r=.exc)\/∃fl cg,r1=.ok (.f fl cg)/\((fl=.next/\r=.ok .none)\/∃v,fl=.ret v/\r=.ok v)):=by
 refine aG (dM e) (kA ?_) (cK ?_)
 ·rintro e1 h;refine aG (sh e1) (kA ?_) (cK ?_)
  ·rintro _ e0;exact⟨.exc,e0,.inl ⟨rfl,h⟩⟩
  ·rintro fl cg z _;exact nC Zq.Rs.ctorIdx z rfl
 ·clear e;rintro c iP e1 e2;refine aG (sh e1) (kA ?_) (cK ?_)
  ·rintro z _;exact nC Zq.Rs.ctorIdx z rfl
  ·clear e1;rintro fl cg z e0;(revert e2;refine AV z ?_;clear z c;intro e2);induction fl with
   |next=>(revert e0;refine dX e2 ?_;intro e0);exact⟨_,e0,.inr ⟨_,_,rfl,.inl ⟨rfl,rfl⟩⟩⟩
   |ret v=>(revert e0;refine dX e2 ?_;intro e0);exact⟨_,e0,.inr ⟨_,_,rfl,.inr ⟨v,rfl,rfl⟩⟩⟩
   |brk=>exact nS e2
theorem Js (hb:aL (model au w) (A.deeper ah) w.params K (ah::fs) L0 [ah.locals] (aI (ah::fs)) aJ iP eL (cX ah U) (sf (.ss U body)) (execs body ah) (RF ah U))(mE:A.frames=some fs)(eW:ah.frame=some L0)(hL:ah.locals=L0)(gN:s.heap.get? L0=none)(lN:bL [] (aI fs) ρ σ.length s.heap aJ iP.length eL.heap)(keep:∀c o,s.heap.get? c=some o->eL.heap.get? c=some o)(hg:eL.gens=s.gens)(ho:eL.os=s.os)(hq:NY w.params K fs L ρ σ s r aj R)(e:bd (sF sf (.ss U body)) Lx iP=some (r,aj)):wpAny (model au w) (A.deeper ah) (execs body ah) (λf s'=>R (.ok (.ret (match f with|.ret v=>v|_=>.none))) s')
 (λe s'=>wpAny (model au w) (A.deeper ah) (leaving ah e) (λZ tf=>R (.error e) tf) (λe' tf=>R (.error e') tf) s') eL:=by
 refine aO (Wl e) ?_;rintro r1 hr Lf;refine hb r1 aj hr _ _ λbY s2 W2 bF g1 g2=>?_;clear hr hb;obtain DP:=g1.trans hg;obtain Fs:=g2.trans ho;rw[hL]at bF;have fe:aI (ah::fs)=L0::aI fs:=by unfold aI;rw[oM,eW]
 have fC:∀{h3:bf},bL [L0] (aI (ah::fs)) aJ iP.length eL.heap bY aj.length h3->bL [] (aI fs) ρ σ.length s.heap bY aj.length h3:=λst=>by
  refine((lN.sub (X':=[L0]) (F':=aI fs) (λZ m=>nomatch m) (λZ m=>.inl m) λZ m=>.inl m).trans (st.sub (F':=aI fs) (λZ m=>m) (λc m=>?_) λc m=>?_)).fresh λc m=>?_
  ·rw[fe]at m;exact(cU.mp m).elim (λz=>.inr (z▸.head _)) .inl
  ·rw[fe];exact .inl (.tail _ m)
  ·rw[iD.mp m];exact gN
 refine⟨λan ha f hf=>?_,λhx e he Z=>?_⟩
 ·refine aG Lf (kA ?_) (cK ?_)
  ·rintro z _;rw[z]at ha;exact nC Zq.Rs.ctorIdx ha rfl
  ·rintro fl cg z hc;rw[z]at ha;(revert hf;refine dI ha ?_;clear ha an;intro hf);refine cj hf ?_;clear hf;rintro oq aar q0 q1 _;cases q0;refine aG hc (kA ?_) (Gl ?_)
   ·clear hc;rintro rfl z;rw[show f=.next from q1];exact(hq bY s2 W2.pop (fC bF) DP Fs).1 _ z _ rfl
   ·clear hc;rintro v rfl z;refine aO q1 ?_;clear q1;rintro x rfl q1;exact(hq bY s2 W2.pop (fC bF) DP Fs).1 _ z _ q1
 ·refine aG Lf (kA ?_) (cK ?_)
  ·rintro _ hr;refine RJ (g:=eL.heap) (fs:=fs) (ah:=ah) (by show A.frames.map (ah::·)=_;rw[mE];rfl) eW W2 he bF.live λh3 D ef fl=>?_;exact(hq bY {s2 with heap:=h3} (ef.w W2).pop (fC (ef.tc bF λZ m=>.inr m)) DP Fs).2 hr e ((fl L).sub λc hc=>by
    induction q:s.heap.get? c with
    |none=>rfl
    |some o=>rw[keep c o q]at hc;exact sN hc)
  ·rintro fl cg z _;rw[z]at hx;exact nC Zq.Rs.ctorIdx hx rfl
set_option tactic.hygienic true in
theorem Ck (fo:my K a fi)(I:∀{A fs L ah U ρ σ s},Ctx w.params K A fs L ah U ρ σ s.heap->U.sc=fi.scope->(∀oc od fd iU,K.lookup a=some ⟨oc,od,.func fd,iU⟩->ah.scope=fd.scope/\ah.code=fd.code/\ah.qual=fd.qualname++".<locals>.")->aL (model au w) A w.params K fs L [ah.locals] (aI fs) ρ σ s (cX ah U) (sf (.ss U fi.body)) (execs fi.body ah) (RF ah U))(rm:Rq A fs (d'+1))(hs:N0<=s.heap.objs.size)(hw:W w.params K fs ρ σ s.heap)(hv:aW s.heap ρ σ.length av vs):kI (model au w) A w.params K fs L ρ σ s (sk sf fi d' av) (.call (.ref a) ⟨vs,[]⟩):=by
 intro r aj e R hq;unfold sk at e;induction hb:jr fi.ps av fi.df with
 |none=>rw[hb]at e;exact nS e
 |some b =>
 rw[hb]at e;refine fp (BY hb) ?_;rintro uU th rh;refine G6 fo.ex ?_;rintro oc od fd iU f1 f2 f3 f4 f5 f6 f7 f8 f9 ds AF Fu xI;have hl:=hv.len;have nH:=(xI s.heap ρ σ.length).len;have e':bd (mU b (dS fi.scope)) (λcs=>bd (sF sf (.ss {sc:=fi.scope,loc:=b.filter (λp=>!mi (dS fi.scope) p.1),cz:=cs,d:=d',ro:=fi.ro} fi.body)) λr=>(match r.1 with
  |.next=>rt .none
  |.ret v=>rt v
  |.brk=>no)) σ=some (r,aj):=e
 clear e;rw[show ∀(f:List (ak×Nat)->Mo V),bd (mU b (dS fi.scope)) f σ=f (idx (dS fi.scope) σ.length) (σ++(dS fi.scope).map λx=>O.cell (lk x b)) from λf=>by unfold bd;rw[HM]]at e';obtain Gq: ∀(M:gT) (A:bZ) (E:az->aN->Prop) (Q:Option (Array az)->aN->Prop),(∀o,(o.getD #[]).toList=ds->Q o s)->wpAny M A (seqItems? fd.defaults) Q E s:=λM A E Q h=>by
  refine aG Fu (kA ?_) (qy ?_)
  ·rintro h1 h2;rw[h1];exact bq (h none (by rw[h2];rfl))
  ·rintro T o k h1 h2 h3;rw[h1];exact wpAny_seqItems (hw.ba.k _ _ h2) h3 (h _ rfl)
 have lB:=Cn (jM:=vs) f8 (by rw[f9];exact fo.nd) Gq (by rw[f9,hl];exact th) (by rw[f9,nH];exact AF) (by rw[f9,hl,nH];exact Ey rh);rw[f9]at lB;have hk:vs.length-(fi.ps.length-ds.length)=fi.df.length+av.length-fi.ps.length:=by rw[hl,nH];exact EN AF
 rw[hk]at lB;have OD:aW s.heap ρ σ.length (av++fi.df.drop (fi.df.length+av.length-fi.ps.length)) (vs++ds.drop (fi.df.length+av.length-fi.ps.length)):=hv.app ((xI s.heap ρ σ.length).drop _);generalize vs++ds.drop (fi.df.length+av.length-fi.ps.length)=xs at *;have fY:(av++fi.df.drop (fi.df.length+av.length-fi.ps.length)).length=fi.ps.length:=by
  simp only[bk,nN];exact My th rh
 generalize av++fi.df.drop (fi.df.length+av.length-fi.ps.length)=vvs at *;obtain hxl: xs.length=fi.ps.length:=by rw[OD.len,fY]
 have pb:=Bw (hZ hxl.symm);refine codeAny_call_function (by have af:=rm.dep;show A.depth<1000;lia) (hw.ba.k _ _ f1) rfl (by rw[f2];exact fo.co) (by rw[f2];exact fo.gen) f3 (codeRec_of hw.ba.k f4) (lB _ _ _ _ ?_);rw[f2,f5,f6,f7];have Gz:=OM fo.snd;have N4:∀n,cellsFrom n fi.scope.names []=(idx (dS fi.scope) n).reverse:=λn=>by rw[Bq,di];rfl
 refine wpAny_newFunctionEnv_cells fo.k (λx hx=>?_) λah he eL ic=>⟨hw.ba.lim.keeps ic.toInCall.keep,codeAny_func ?_⟩
 ·obtain hm: x.1∈fi.ps:=pb▸rA (f:=(·.1)) hx;obtain af:= fo.par _ hm;unfold bI at af;rw[iY]at af;refine af.imp id λh=>⟨h,?_⟩;rw[N4,vF (by rw[yF];exact Gz)];obtain m:=(Bm fo.snd).mpr (by unfold bI;rw[iY];exact h);induction q:(idx (dS fi.scope) (s.heap.objs.size+1)).lookup x.1 with
  |some _=>rfl
  |none =>
   exfalso;rw[<- yF (dS fi.scope) (s.heap.objs.size+1)]at m;refine aO (JB.mp m) ?_;rintro p hp X6;obtain af:= PM.mp q p hp;rw[X6]at af;simp at af
 have hL:ah.locals=s.heap.objs.size:=by rw[he];rfl
 have eW:ah.frame=some s.heap.objs.size:=by rw[he];rfl
 have jN:ah.scope=fi.scope:=by rw[he];rfl
 obtain oh: ah.cells=(idx (dS fi.scope) (s.heap.objs.size+1)).reverse:=by rw[he,<- N4];rfl
 have pC:ah.globals=mainGlobals:=by rw[he];rfl
 have xp:ah.builtins=builtinsNs:=by rw[he];rfl
 have kO:∀x,ah.kindOf x=bI x fi.scope:=λx=>by
  show ah.scope.names.lookup x=_;rw[jN];unfold bI;rw[iY]
 have keep:=ic.toInCall.keep;obtain w1:= hw.grow keep;obtain gN: s.heap.get? s.heap.objs.size=none:=get_none (bc _);obtain GA: s.heap.objs.size∉aI fs:=λm=>qe _ (hw.fr.lt m);have uH:∀i,i<σ.length->ρ i<s.heap.objs.size:=λi hi=>hw.lt hi;refine dG ic.toInCall.ns ?_;rintro oL es ep Au Fw Yd;rw[hL]at Au;have w2:=w1.push (ah:=ah) ⟨by rw[jN,fo.k];decide,by rw[jN];exact fo.gen,by rw[jN];exact fo.co,xp,pC⟩ eW hs (λi hi=>iE (uH i hi)) Au Fw GA;obtain FA: Kp s.heap ρ σ.length eL.heap ρ σ.length:=⟨bc _,λZ Z=>rfl,λb o e Z=>keep b o e,λZ Z e=>keep _ _ e⟩;have N2:∀{x v},lk x b=some v->∃y,(x,y)∈fi.ps.zip xs/\VR s.heap ρ σ.length v y:=λ{x v} h=>by rw[uU]at h;exact Ds OD h
 have Oz:∀j x,ay (dS fi.scope) j=some x->ah.cells.lookup x=some (s.heap.objs.size+1+j):=λj x h=>by
  rw[oh,vF (by rw[yF];exact Gz),<- iY];obtain af: ∀(l:List ak) (n j:Nat) (x:ak),l.Nodup->ay l j=some x->lk x (idx l n)=some (n+j):=by
   intro l;induction l with
   |nil=>intro n j x _ e;exact nS e
   |cons y l ih =>
    intro n j x nd e;refine oA (jS.mp nd) ?_;rintro n1 n2;dsimp only[idx];rw[fA];induction j using eO with
    |zero=>(refine aT e ?_);simp
    |succ j =>
     have m:=CX (l:=l) (j:=j) e;rw[if_neg (λ(z:x=y)=>n1 (z▸m)),ih _ _ _ n2 e]
     congr 1;exact Bn n 1 j
  exact af _ _ _ _ Gz h
 refine cy (W.cells ((dS fi.scope).map λx=>lk x b) (base:=s.heap.objs.size+1) w2 (tG hs) (λi hi=>tH (uH i hi)) (λc m=>by
  unfold aI at m;rw[oM,eW]at m;refine aG (cU.mp m) ?_ ?_
  ·rintro rfl;exact mP _
  ·rintro m;exact tH (hw.fr.lt m)) (λj v hj=>by
  obtain af:= JD hj;refine aO af ?_;clear hj;rintro x hx rfl;refine(aP _ (ic.cell x _ (Oz j x hx)) ?_);obtain YT:=(Bm fo.snd).mp (CX hx);induction hq:lk x b with
  |none =>
   obtain af:= HB (by rw[<- uU];exact hq) fY;rw[B7 (by rw[pb];exact af)];trivial
  |some v =>
   refine aO (N2 hq) ?_;rintro y m hy;rw[I0 (by rw[kO,YT];decide) (by rw[pb];exact fo.nd) m];exact hy.kp FA)) ?_
 rintro aJ w3 r1 r2;have UL:σ++(dS fi.scope).map (λx=>O.cell (lk x b))=σ++((dS fi.scope).map λx=>lk x b).map O.cell:=by rw[List.map_map];rfl
 rw[UL]at e';generalize mL:σ++((dS fi.scope).map λx=>lk x b).map O.cell=iP at *;have MT:iP.length=σ.length+(dS fi.scope).length:=by rw[<- mL];simp
 obtain uE: Kp s.heap ρ σ.length eL.heap aJ iP.length:=⟨by exact ve (hZ (eG MT)),r1,λb o e Z=>keep b o e,λZ Z e=>keep _ _ e⟩;obtain lN: bL [] (aI fs) ρ σ.length s.heap aJ iP.length eL.heap:=by
  refine⟨by exact ve (hZ (eG MT)),r1,λi h1 h2=>?_,λc o e=>⟨o,keep c o e⟩,λc o e Z Z Z Z=>keep c o e,λc o Z Z e=>⟨o.slots,keep c o e⟩⟩;obtain af:= r2 (i-σ.length) (by simp;lia);rw[show σ.length+(i-σ.length)=i by exact pW h1]at af;rw[af];exact get_none (by exact bC (iF _) (dK _ _))
 obtain cx: Ctx w.params K (A.deeper ah) (ah::fs) s.heap.objs.size ah {sc:=fi.scope,loc:=b.filter (λp=>!mi (dS fi.scope) p.1),cz:=idx (dS fi.scope) σ.length,d:=d',ro:=fi.ro} aJ iP eL.heap:=by
  refine⟨⟨?_,by simp,?_,?_,rm.hn⟩,(cF ah fs rfl eW),eW,w3,?_⟩
  ·show A.frames.map (ah::·)=_;rw[rm.fr];rfl
  ·obtain af:= rm.dep;show A.depth+1+4*d'+40<=900;lia
  ·obtain af:= rm.un;show A.units+3+20*d'+100<=9000;lia
  ·refine⟨by rw[jN];exact fo.k,pC,xp,(aP _ ic.toInCall.ns (λx v hx=>?_)),by rw[hL];exact hs,λi hi=>?_,λx h=>by rw[kO];exact h,λx h=>by rw[kO];exact h,λx i h1 h2=>?_,λx h=>by rw[kO];exact h,fo.nm⟩
   ·refine aO (N2 (yw x (λy=>!mi (dS fi.scope) y) b v hx)) ?_;rintro y m hy;obtain hm: x∈fi.ps:=by
     obtain af:= rA (f:=(·.1)) m
     rwa [pb]at af
    obtain ZM: x∉dS fi.scope:=λq=>by
     obtain af: ∀(l:List (ak×V)),lk x (l.filter λp=>!mi (dS fi.scope) p.1)=none:=λl=>by
      induction l with
      |nil=>rfl
      |cons p l ih =>
       (rewrite[oN];try(with_reducible rfl));split
       ·rename_i hp;(rewrite[fA,if_neg (λz=>?_)];try(with_reducible rfl))
        ·exact ih
        ·rw[<- z,Po.mpr q]at hp;exact fT hp
       ·exact ih
     rw[af]at hx;exact nS hx
    obtain AK:=(fo.par x hm).resolve_right λq=>ZM ((Bm fo.snd).mpr q);exact(aP y (Jm (by rw[kO];exact AK) (by rw[pb];exact fo.nd) m) (hy.kp uE))
   ·rw[hL];by_cases q:i<σ.length
    ·rw[r1 i q];exact iE (uH i q)
    ·obtain af:= r2 (i-σ.length) (by simp;lia);rw[show σ.length+(i-σ.length)=i by lia]at af;rw[af];intro z;obtain af:=fK (mP _) (dK _ _);exact absurd af (by rw[z];exact qe _)
   ·refine qD (JO (s.heap.objs.size+1) h2) ?_;rintro j j1 j2 j3 j4;refine(dg (by lia) ?_ ?_)
    ·rw[kO];exact h1
    ·rw[Oz j x j4,j2,r2 j (by simpa using j1)]
 exact Js (I cx rfl (λNN iA M8 LU q=>by rw[f1]at q;cases q;rw[he];exact(dg f2.symm rfl rfl))) rm.fr eW hL gN lN (λc o q=>keep c o q) (by refine dc ic.done ?_;rintro h' tk z _;rw[z]) (by refine dc ic.done ?_;rintro h' tk z _;rw[z]) hq e'
theorem TB (I:Ih au w K sf)(fo:my K a fi)(rm:Rm A fs (d'+1))(hw:W w.params K fs ρ σ s.heap)(hv:aW s.heap ρ σ.length av vs):kI (model au w) A w.params K fs L ρ σ s (sk sf fi d' av) (.call (.ref a) ⟨vs,[]⟩) :=
 Ck fo (λcx Z Z=>I.ss fi.body cx) rm.q (hw.sz rm.ne) hw hv
end
structure zA (K:bz)(C a:ax):Prop where
 Nb:makesIn K C=true
 gf:findIn K (.ref C) "__init__"=some (some (.ref a))
 fn:typeIn K (.ref a)=some (.type "function")
structure C9 (fi:FI):Prop where
 k:fi.scope.kind=.function
 co:fi.scope.isCoroutine=false
 gen:fi.scope.isGenerator=false
 nd:fi.ps.Nodup
 df:fi.df=[]
 cz:∀x∈fi.scope.names,x.2≠.cell
 par:∀x∈fi.ps,bI x fi.scope=some .local
 nm:∀x q,bI x fi.scope=some q->(x==("__debug__":ak))=false/\(x==("__classdict__":ak))=false
structure ud (au:cB)(w:bw)(K:bz)(P:PE)(Γ:ax->Option (Nat->List V->Mo V)):Prop where
 fn:∀a fi,P.fn a=some fi->my K a fi
 gf:∀C a,P.gf C=some a->zA K C a
 M3:∀a g,Γ a=some g->∀{A fs L ρ σ s} (d:Nat) (av:List V) (vs:List az),Rm A fs d->W w.params K fs ρ σ s.heap->aW s.heap ρ σ.length av vs->kI (model au w) A w.params K fs L ρ σ s (g d av) (.call (.ref a) ⟨vs,[]⟩)
 Ga:P.told=cH/\C9 cH
theorem QG:fS P Γ sf d (.fn a) av=(match Γ a with
 |some g=>g d av
 |none=>(match P.fn a,d with
  |some fi,d'+1=>sk sf fi d' av
  |_,_=>no)):=rfl
section
variable {au:cB}{w:bw}{K:bz}{P:PE}{Γ:ax->Option (Nat->List V->Mo V)}{sf:Jb->Mo An}{A:bZ}{fs:List a9}{L:ax}{ρ:Nat->ax}{σ:Sg}{s:aN}
theorem kI.no:kI (model au w) A w.params K fs L ρ σ s Zq.no c:=λr aj e=>by exact nS e
theorem kI.sim (hX:X=[])(hE:EX=cD)(h:kI (model au w) A w.params K fs L ρ σ s m (.call c ⟨vs,[]⟩)):aL (model au w) A w.params K fs L X (aI fs) ρ σ s EX m (call c vs) RV:=by
 subst hX;subst hE;intro r aj e Q E hq;exact tS (h r aj e _ λaJ s' w' st g1 g2=>⟨λv hv x hx=>(hq aJ s' w' st g1 g2).1 v hv x hx,λhr e he=>(hq aJ s' w' st g1 g2).2 hr e he trivial⟩)
theorem HU (I:Ih au w K sf)(FO:ud au w K P Γ)(rm:Rm A fs d)(hw:W w.params K fs ρ σ s.heap)(hv:aW s.heap ρ σ.length av vs):kI (model au w) A w.params K fs L ρ σ s (fS P Γ sf d (.fn a) av) (.call (.ref a) ⟨vs,[]⟩):=by
 rw[QG];induction hg:Γ a with
 |some g=>exact FO.M3 a g hg d av vs rm hw hv
 |none =>
  skip;induction hf:P.fn a with
  |none=>exact .no
  |some fi =>
   induction d using eO with
   |zero=>exact .no
   |succ d'=>exact TB I (FO.fn a fi hf) rm hw hv
theorem Rm.less (rm:Rm A fs d)(h:d'<=d):Rm A fs d':=⟨rm.fr,rm.ne,by have af:=rm.dep;lia,by have af:=rm.un;lia,rm.hn⟩
theorem R3 (I:Ih au w K sf)(co:zA K C a)(rm:Rm A fs (d'+1))(hw:W w.params K fs ρ σ s.heap)(hv:aW s.heap ρ σ.length av vs):kI (model au w) A w.params K fs L ρ σ s (bd (al (.dict [])) λdx=>bd (al (.inst C dx)) λx=>bd (sV sf (.ca d' (.fn a) (.ref x::av))) λr=>(match r with
 |.none=>rt (.ref x)
 |_=>no)) (.call (.ref C) ⟨vs,[]⟩):=by
 intro r aj e R hq;obtain⟨hh,g,dr,t,os⟩:=s;dsimp only at hw hv hq;have hs:=hw.sz rm.ne;refine make_core (makes_of hw.ba.k co.Nb) (looks_findIn hw.ba.k co.gf) (λself=>bind_fn hw.ba.k self co.fn) (.inl rfl) ?_;have k1:∀b o,hh.get? b=some o->(hh.push emptyDict).get? b=some o:=λb o e=>dF _ e;have k2:∀b o,(hh.push emptyDict).get? b=some o->((hh.push emptyDict).push (instObj C hh.objs.size)).get? b=some o:=λb o e=>dF _ e;obtain g1: (hh.push emptyDict).get? hh.objs.size=some emptyDict:=hW _ rfl;have z1:(hh.push emptyDict).objs.size=hh.objs.size+1:=tK ..;obtain w1: W w.params K fs (up ρ σ.length hh.objs.size) (σ++[O.dict []]) (hh.push emptyDict):=hw.one k1 hs (bc _) ⟨[],0,g1,λZ m=>(nomatch m),λx v q=>by(exact nS q),λx q=>rfl,bc _,by simp⟩;have l1:(σ++[O.dict []]).length=σ.length+1:=by simp
 obtain g2: ((hh.push emptyDict).push (instObj C hh.objs.size)).get? (hh.objs.size+1)=some (instObj C hh.objs.size):=by rw[<- z1];exact hW _ rfl
 have w2:W w.params K fs (up (up ρ σ.length hh.objs.size) (σ.length+1) (hh.objs.size+1)) (σ++[O.dict []]++[O.inst C σ.length]) ((hh.push emptyDict).push (instObj C hh.objs.size)):=by
  obtain af:= w1.one (a:=hh.objs.size+1) (x:=.inst C σ.length) k2 (by rw[z1];exact tG hs) (by rw[z1];exact bc _) (by
   rw[l1];refine⟨by exact(dK (ew σ).succ 1),?_⟩;rw[g2]
   congr 2
   rw[fV (by exact(bc (ew σ).succ)),fX])
  rw[l1]at af;exact af
 have l2:(σ++[O.dict []]++[O.inst C σ.length]).length=σ.length+2:=by simp
 have ext:∀i,i<σ.length->up (up ρ σ.length hh.objs.size) (σ.length+1) (hh.objs.size+1) i=ρ i:=λi hi=>by rw[fV (bC hi (dK (ew σ) 1)),fV hi]
 obtain kp: Kp hh ρ σ.length ((hh.push emptyDict).push (instObj C hh.objs.size)) (up (up ρ σ.length hh.objs.size) (σ.length+1) (hh.objs.size+1)) (σ.length+2):=⟨by exact(dK (ew σ) 2),ext,λb o e Z=>k2 _ _ (k1 _ _ e),λZ Z e=>k2 _ _ (k1 _ _ e)⟩;have lN:bL [] (aI fs) ρ σ.length hh (up (up ρ σ.length hh.objs.size) (σ.length+1) (hh.objs.size+1)) (σ.length+2) ((hh.push emptyDict).push (instObj C hh.objs.size)):=by
  refine⟨by exact(dK (ew σ) 2),ext,λi h1 h2=>?_,λc o e=>⟨o,k2 _ _ (k1 _ _ e)⟩,λc o e Z Z Z Z=>k2 _ _ (k1 _ _ e),λc o Z Z e=>⟨o.slots,k2 _ _ (k1 _ _ e)⟩⟩;by_cases q:i=σ.length
  ·clear h1 h2;subst q;rw[fV ((bc (ew σ).succ)),fX];exact get_none (bc _)
  ·obtain af: i=σ.length+1:=by clear e;lia
   clear h1 h2 q;subst af;rw[fX];exact get_none (iF _)
 obtain xr: VR ((hh.push emptyDict).push (instObj C hh.objs.size)) (up (up ρ σ.length hh.objs.size) (σ.length+1) (hh.objs.size+1)) (σ.length+2) (.ref (σ.length+1)) (.ref (hh.objs.size+1)):=by
  exact⟨by exact(bc (ew σ+1).succ),by rw[fX]⟩
 obtain e': bd (sV sf (.ca d' (.fn a) (.ref (σ.length+1)::av))) (λr=>(match r with
  |.none=>rt (.ref (σ.length+1))
  |_=>no)) (σ++[O.dict []]++[O.inst C σ.length])=some (r,aj):=by
  obtain af: (σ++[O.dict []]).length=σ.length+1:=by simp
  rw[<- af];exact e
 have nJ:aW ((hh.push emptyDict).push (instObj C hh.objs.size)) (up (up ρ σ.length hh.objs.size) (σ.length+1) (hh.objs.size+1)) (σ.length+2) (.ref (σ.length+1)::av) (.ref (hh.objs.size+1)::vs):=by
  exact(ey _ _ rfl xr (hv.kp kp))
 rw[<- l2]at nJ lN;have MY:Rm (A.under (.builtin "type.__call__" ⟨.ref C::vs,[]⟩)) fs d':=by
  obtain u: (lZ "type.__call__" ⟨.ref C::vs,[]⟩).weight=1:=by
   unfold Code.weight;obtain h1: (lZ "type.__call__" ⟨.ref C::vs,[]⟩).frames=0:=by rfl
   have h2:(lZ "type.__call__" ⟨.ref C::vs,[]⟩).isCreation=true:=rfl;obtain h3: (lZ "type.__call__" ⟨.ref C::vs,[]⟩).isGuard=false:=by show guardIds.contains "type.__call__"=false;decide +kernel
   have h4:(lZ "type.__call__" ⟨.ref C::vs,[]⟩).isCaller=false:=rfl;rw[h1,h2,h3,h4];rfl
  obtain u2: (lZ "type.__call__" ⟨.ref C::vs,[]⟩).cUnits<=10:=by
   obtain af: (lZ "type.__call__" ⟨.ref C::vs,[]⟩).cUnits=1:=by rfl
   rw[af];decide
  refine⟨?_,rm.ne,?_,?_,rm.hn⟩
  ·obtain af: (A.under (.builtin "type.__call__" ⟨.ref C::vs,[]⟩)).frames=A.frames:=by show pushEnvs [] A.frames=_;induction A.frames<;>rfl
   rw[af];exact rm.fr
  ·show A.depth+_+4*d'+40<=900;rw[u];obtain af:= rm.dep;clear e e';lia
  ·show A.units+_+20*d'+100<=9000;obtain af:= rm.un;clear e e';lia
 refine aG (dM e') (kA ?_) (cK ?_)
 ·rintro h1 h2;refine I.cf (L:=L) d' a _ _ MY w2 nJ _ _ h1 _ λaJ s' w' bD q1 q2=>⟨λv hv=>(nC Zq.Rs.ctorIdx hv rfl),λZ e he=>?_⟩;exact(hq aJ s' w' (lN.trans bD) q1 q2).2 h2 e (he.sub λc hc=>lN.nu hc)
 ·rintro v iP e1 e2;refine I.cf (L:=L) d' a _ _ MY w2 nJ _ _ e1 _ λaJ s' w' bD q1 q2=>⟨λv' hv x hx=>?_,λh=>by exact nC Zq.Rs.ctorIdx h rfl⟩;(revert hx;refine dI hv ?_;clear hv v';intro hx);induction v using Zq.V.casesOn<;>first|(exact nS e2;done)|skip
  case none =>
   (revert hq w' bD hx;refine i7 e2 ?_;intro hq w' bD hx);refine⟨hx,(hq aJ s' w' (lN.trans bD) q1 q2).1 _ rfl _ ?_⟩;refine⟨fK (by rw[l2];exact(bc (ew σ+1).succ)) bD.le,?_⟩;rw[bD.ext _ (by rw[l2];exact(bc (ew σ+1).succ)),fX]
set_option tactic.hygienic true in
theorem Ra (I:Ih au w K sf)(to:C9 cH)(hi:zk i σ=some (c1,c2))(rm:Rm A fs (d'+1))(hw:W w.params K fs ρ σ s.heap)(hv:aW s.heap ρ σ.length av vs):kI (model au w) A w.params K fs L ρ σ s (bd (aX (jr cH.ps av cH.df)) λb =>
 bd (sF sf (.ss {sc:=cH.scope,loc:=b,cz:=[("doctypes",c1),("table",c2)],d:=d',ro:=[]} cH.body)) λr=>(match r.1 with
  |.next=>rt .none
  |.ret v=>rt v
  |.brk=>no)) (.call (.ref (ρ i)) ⟨vs,[]⟩):=by
 intro r aj e R hq;obtain hn: ay σ i=some (.told c1 c2):=by
  revert hi;unfold zk;induction ay σ i with
  |none=>exact λhi=>nS hi
  |some o=>induction o using O.casesOn with
   |told a b=>exact λhi=>by(refine Lg hi ?_);rfl
   |_=>exact λhi=>nS hi
 refine yI (hw.hr.ob i _ hn) ?_;rintro n1 n2 o fd f1 f2 f3 td;induction hb:jr cH.ps av cH.df with
 |none=>rw[hb]at e;exact nS e
 |some b =>
 rw[hb]at e;refine fp (BY hb) ?_;rintro uU th rh;rw[to.df]at uU rh;simp only[BR,di,rH,rM]at uU rh;have Gs:av.length=cH.ps.length:=by exact Nat.le_antisymm th rh
 have hl:=hv.len;have lB:=Cn (s:=s) (fd:=fd) (jM:=vs) (ds:=[]) td.pl (by rw[td.ps];exact to.nd) (λM A E Q h=>by rw[td.df];exact bq (h none rfl)) (by rw[td.ps];exact le_of_eq_of_le hl th) (by simp) (by rw[td.ps];simp only[rH];exact le_of_le_of_eq rh (eG hl));rw[td.ps]at lB;simp only[BR,di]at lB;have pb:=Bw (le_of_le_of_eq rh (eG hl));have e':bd (sF sf (.ss {sc:=cH.scope,loc:=b,cz:=[("doctypes",c1),("table",c2)],d:=d',ro:=[]} cH.body)) (λr=>(match r.1 with
  |.next=>rt .none
  |.ret v=>rt v
  |.brk=>no)) σ=some (r,aj):=e
 clear e;refine IE (fd:=fd) (body:=cH.body) (binds:=cH.ps.zip vs) (by have af:=rm.dep;show A.depth<1000;lia) f1 f3 hw.ba.lim (by refine jU td.cd ?_;rintro c oc vs t c1 c2 c3 c4 c5;exact⟨c,oc,vs,t,c1,c2,c4,c5⟩) td.bo lB
  (by rw[td.sc];exact to.cz) (λx hx=>?_) (λh₀ el keep=>?_) (by rw[td.sc];exact to.co) (by rw[td.sc];exact to.gen) (by rw[td.sc];exact to.k)
 ·obtain hm: x.1∈cH.ps:=pb▸rA (f:=(·.1)) hx;obtain af:= to.par _ hm;unfold bI at af;rw[iY]at af;rw[td.sc];exact af
 generalize eo:callEnv fd s.heap.objs.size (ρ i)=ah;have hL:ah.locals=s.heap.objs.size:=by rw[<- eo];rfl
 have eW:ah.frame=some s.heap.objs.size:=by rw[<- eo];rfl
 have jN:ah.scope=cH.scope:=by rw[<- eo];exact td.sc
 obtain oh: ah.cells=fd.closure:=by rw[<- eo];rfl
 have pC:ah.globals=mainGlobals:=by rw[<- eo];exact td.gl
 have xp:ah.builtins=builtinsNs:=by rw[<- eo];exact td.bu
 have kO:∀x,ah.kindOf x=bI x cH.scope:=λx=>by
  show ah.scope.names.lookup x=_;rw[jN];unfold bI;rw[iY]
 obtain w1:= hw.grow keep;have hs:=hw.sz rm.ne;obtain gN:=get_none (bc _);obtain GA: s.heap.objs.size∉aI fs:=λm=>qe _ (hw.fr.lt m);have uH:∀i,i<σ.length->ρ i<s.heap.objs.size:=λi hi=>hw.lt hi;refine dG (id el) ?_;rintro oL es ep Au Fw Yd;have w2:=w1.push (ah:=ah) ⟨by rw[jN,to.k];decide,by rw[jN];exact to.gen,by rw[jN];exact to.co,xp,pC⟩ eW hs (λi hi=>iE (uH i hi)) Au Fw GA;obtain FA: Kp s.heap ρ σ.length h₀ ρ σ.length:=⟨bc _,λZ Z=>rfl,λb o e Z=>keep b o e,λZ Z e=>keep _ _ e⟩;obtain lN: bL [] (aI fs) ρ σ.length s.heap ρ σ.length h₀:=.grow keep;obtain cx: Ctx w.params K (A.deeper ah) (ah::fs) s.heap.objs.size ah {sc:=cH.scope,loc:=b,cz:=[("doctypes",c1),("table",c2)],d:=d',ro:=[]} ρ σ h₀:=by
  refine⟨⟨?_,by simp,?_,?_,rm.hn⟩,(cF ah fs rfl eW),eW,w2,?_⟩
  ·show A.frames.map (ah::·)=_;rw[rm.fr];rfl
  ·obtain af:= rm.dep;show A.depth+1+4*d'+40<=900;lia
  ·obtain af:= rm.un;show A.units+3+20*d'+100<=9000;lia
  ·refine⟨by rw[jN];exact to.k,pC,xp,(aP _ (by rw[hL];exact el) (λx v hx=>?_)),by rw[hL];exact hs,λi hi=>by rw[hL];exact iE (uH i hi),λx h=>by rw[kO];exact h,λx h=>by rw[kO];exact h,λx i h1 h2=>?_,λx h=>by rw[kO];exact h,to.nm⟩
   ·rw[uU]at hx;refine aO (Ds hv hx) ?_;rintro y m hy;refine(aP y ?_ (hy.kp FA));rw[vF (by rw[pb];exact to.nd)];obtain af: ∀{l:List (ak×az)},(l.map (·.1)).Nodup->(x,y)∈l->l.lookup x=some y:=by
     intro l;induction l with
     |nil=>intro _ m;cases m
     |cons p l ih =>
      intro nd m;refine oA (jS.mp nd) ?_;rintro q1 q2;rw[gh];refine aG (cU.mp m) ?_ ?_
      ·rintro z;rw[<- z];simp
      ·rintro m;obtain af: (x==p.1)=false:=beq_eq_false_iff_ne.mpr λz=>q1 (by have h:=rA (f:=(·.1)) m;show p.1∈_;rw[<- z];exact h);rw[af];exact ih q2 m
    exact af (by rw[pb];exact to.nd) m
   ·rw[kO,oh,td.cl];rw[fA,fA]at h2;refine(dg ?_ h1 ?_)
    ·split at h2
     ·(refine aT h2 ?_);exact n1
     ·split at h2
      ·(refine aT h2 ?_);exact n2
      ·exact nS h2
    ·split at h2
     ·rename_i q;(refine aT h2 ?_);rw[if_pos q]
     ·rename_i q;rw[if_neg q];split at h2
      ·rename_i q';(refine aT h2 ?_);rw[if_pos q']
      ·exact nS h2
 exact Js (eL:={s with heap:=h₀,toks:=s.toks+(cH.ps.zip vs).length}) (I.ss (s:={s with heap:=h₀,toks:=s.toks+(cH.ps.zip vs).length}) cH.body cx) rm.fr eW hL gN lN (λc o q=>keep c o q) rfl rfl hq e'
end
section
variable {au:cB}{w:bw}{K:bz}{P:PE}{Γ:ax->Option (Nat->List V->Mo V)}{sf:Jb->Mo An}{A:bZ}{fs:List a9}{L:ax}{ah:a9}{U:Fm}{ρ:Nat->ax}{σ:Sg}{s:aN}
noncomputable def U6 (sf:Jb->Mo An)(C:ax)(o:Option ax)(d:Nat)(av:List V):Mo V:=match o,d with
 |some a,d'+1=>bd (al (.dict [])) λdx=>bd (al (.inst C dx)) λx=>bd (sV sf (.ca d' (.fn a) (.ref x::av))) λr=>(match r with
  |.none=>rt (V.ref x)
  |_=>no)
 |_,_=>no
theorem UO (I:Ih au w K sf)(rm:Rm A fs d)(hw:W w.params K fs ρ σ s.heap)(hf:VR s.heap ρ σ.length f fv)(hv:aW s.heap ρ σ.length av vs):aL (model au w) A w.params K fs L [] (aI fs) ρ σ s cD (sV sf (.ca d f av)) (call fv vs) RV:=by
 obtain h:=(I.ca (L:=L) d f av fv vs rm hw hf hv).bind (f:=λ|.v v=>rt v|_=>no) (g:=λx=>pure x) (R':=RV) λa b aJ aj s' w' st r=>by
  refine aO r ?_;clear r;rintro v rfl r;exact .pure w' r
 rwa [show(call fv vs>>=λx=>pure x)=call fv vs from bind_pure _]at h
theorem U7 (I:Ih au w K sf)(FO:ud au w K P Γ)(rm:Rm A fs d)(hw:W w.params K fs ρ σ s.heap)(hf:VR s.heap ρ σ.length f fv)(hv:aW s.heap ρ σ.length av vs):aL (model au w) A w.params K fs L [] (aI fs) ρ σ s cD (fS P Γ sf d f av) (call fv vs) RV:=by
 induction f using Zq.V.casesOn with
 |fn a=>obtain rfl:=hf;exact(HU I FO rm hw hv).sim rfl rfl
 |fj a i =>
  refine cy hf ?_;clear hf;rintro q rfl hi ho;induction d using eO with
  |zero=>exact .no
  |succ d' =>
   refine kI.sim (L:=L) rfl rfl λr aj e R hq=>method_call ho ?_;exact I.cf (L:=L) d' a _ _ (rm.less (iF _)) hw (by exact(ey _ _ rfl (⟨hi,rfl⟩) hv)) r aj e R hq
 |cls C =>
  obtain rfl:=hf;obtain e1:fS P Γ sf d (.cls C) av=U6 sf C (P.gf C) d av:=rfl;rw[e1];induction hi:P.gf C with
  |none=>exact .no
  |some a =>
   clear e1;induction d using eO with
   |zero=>exact .no
   |succ d'=>exact(R3 I (FO.gf C a hi) rm hw hv).sim rfl rfl
 |bi b=>obtain rfl:=hf;exact I8 rm rfl hw hv
 |ref i =>
  refine oA hf ?_;clear hf;rintro hi rfl;induction d using eO with
  |zero=>exact .no
  |succ d' =>
   refine .gt λc hc=>?_;obtain⟨c1,c2⟩:=c;have af:=Ra (L:=L) I FO.Ga.2 hc rm hw hv;rw[<- FO.Ga.1]at af;exact af.sim rfl rfl
 |_=>exact .no
noncomputable def Kept (M:gT)(f:az)(h:bf):Prop:=∃k,(k=Keeper.frame\/k=Keeper.machine\/k=Keeper.boundFrame)/\Looks M h (keeperOf f) k
theorem KX (FO:ud au w K P Γ)(GO:∀a g,Γ a=some g->fnIn K a=true)(h:qM P Γ a=true):fnIn K a=true:=by
 unfold qM at h;induction hf:P.fn a with
 |some fi =>
  refine ub ((FO.fn a fi hf).ex) ?_;rintro oc od fd iU h1 _;unfold fnIn;rw[h1]
 |none =>
  rw[hf]at h;induction hg:Γ a with
  |some g=>exact GO a g hg
  |none=>rw[hg]at h;exact fT h
set_option tactic.hygienic true in
theorem SD (FO:ud au w K P Γ)(GO:∀a g,Γ a=some g->fnIn K a=true)(hw:W w.params K fs ρ σ s.heap)(hf:VR s.heap ρ σ.length f fv)(hc:callable P Γ f σ=some ()):Kept (model au w) fv s.heap:=by
 have OE:∀{a:ax},fnIn K a=true->∃oc od fd sl,K.lookup a=some ⟨oc,od,.func fd,sl⟩:=λ{a} h=>by
  unfold fnIn at h;induction q:K.lookup a with
  |none=>rw[q]at h;exact fT h
  |some o =>
   rw[q]at h;obtain⟨oc,od,da,sl⟩:=o;induction da using PySem.Data.casesOn with
   |func fd=>exact(La _ _ _ _ rfl)
   |_=>exact fT h
 induction f using Zq.V.casesOn with
 |fn a =>
  obtain rfl:=hf;have hk: qM P Γ a=true:=by
   induction q:qM P Γ a with
   |true=>rfl
   |false=>unfold callable at hc;dsimp only at hc;rw[q]at hc;exact nS hc
  refine Dy (OE (KX FO GO hk)) ?_;rintro _ _ _ _ e;exact(aP (.frame) (.inl rfl) ((rZ (part:=none) (hw.ba.k _ _ e)).andThen .now))
 |fj a i =>
  refine cy hf ?_;clear hf;rintro q rfl hi ho;obtain hk: qM P Γ a=true:=by
   induction q:qM P Γ a with
   |true=>rfl
   |false=>unfold callable at hc;dsimp only at hc;rw[q]at hc;exact nS hc
  refine Dy (OE (KX FO GO hk)) ?_;rintro _ _ _ _ e;refine(aP (.boundFrame) (.inr (.inr rfl)) ((rZ (part:=none) ho).andThen ?_));exact(rZ (part:=none) (hw.ba.k _ _ e)).andThen .now
 |cls C =>
  obtain rfl:=hf;unfold callable at hc;dsimp only at hc;induction hi:P.gf C with
  |none=>rw[hi]at hc;exact nS hc
  |some a =>
   have mk:=makes_of (M:=model au w) hw.ba.k (FO.gf C a hi).Nb;refine ub mk.obj ?_;rintro oc od cd sl h1 _;refine(aP (.machine) (.inr (.inl rfl)) ((rZ (part:=none) h1).andThen ?_));exact mk.call.andThen .now
 |bi b =>
  obtain rfl:=hf;exact(aP (.machine) (.inr (.inl rfl)) (yf (by clear hc;induction b<;>rfl)))
 |ref i =>
  refine oA hf ?_;clear hf;rintro hi rfl;unfold callable at hc;dsimp only at hc;split at hc
  ·rename_i a b q;refine yI (hw.hr.ob i _ q) ?_;rintro _ _ o fd f1 f2 f3 _;refine(aP (.frame) (.inl rfl) ((rZ (part:=none) f1).andThen ?_));rw[f3];exact .now
  ·exact nS hc
 |_=>exact nS hc
theorem vD:∀{av},noStar av=true->(backTo pos (starEach av ah)).any (·.1)=false
 |[],_=>rfl
 |x::r,h=>by
  dsimp only[noStar]at h;induction hs:jX x with
  |true=>rw[hs]at h;exact fT h
  |false =>
   rw[hs]at h;obtain af: starEach (x::r) ah=(false,eval x ah)::starEach r ah:=by
    induction x using cR<;>first|rfl|exact tF hs
   rw[af];exact vD (av:=r) h
theorem Bp:∀{av},av.any (·.1)=false->wpAny M A (spliced av) (λvs s'=>Q ⟨vs,[]⟩ s') E s->wpAny M A (evalArgs f true av []) Q E s
 |[],_,h=>by
  skip;show wpAny M A (spliced []>>=_) Q E s;refine aF (ql h (λvs s' h'=>?_) λZ Z x=>x);exact aF (bq (fy (aF (bq (aF (bq (bq h')))))))
 |(false,x)::aq,_,h=>evalArgs_plain h
 |(true,x)::aq,hn,_=>by simp at hn
theorem xX (h:jX x=false):starEach (x::r) ah=(false,eval x ah)::starEach r ah:=by
 induction x using cR<;>first|rfl|exact tF h
theorem qP (I:Ih au w K sf)(xs:List Expr)(pos:aZ)(c:Ctx w.params K A fs L ah U ρ σ s.heap):aL (model au w) A w.params K fs L [] (aI fs) ρ σ s cD (eZ sf U xs) (spliced (backTo pos (starEach xs ah))) Od:=by
 obtain h:=(I.es xs pos c).bind (f:=λ|.vs v=>rt v|_=>no) (g:=λx=>pure x) (R':=Od) λa b aJ aj s' w' st r=>by
  refine aO r ?_;clear r;rintro v rfl r;exact .pure w' r
 rwa [show(spliced (backTo pos (starEach xs ah))>>=λx=>pure x)=spliced (backTo pos (starEach xs ah)) from bind_pure _]at h
theorem pM (I:Ih au w K sf)(x:Expr)(c:Ctx w.params K A fs L ah U ρ σ s.heap):aL (model au w) A w.params K fs L [] (aI fs) ρ σ s cD (sT sf U x) (isTrue x ah (eval x ah)) RB:=by
 obtain h:=(I.t x c).bind (f:=λ|.b v=>rt v|_=>no) (g:=λx=>pure x) (R':=RB) λa b aJ aj s' w' st r=>by
  (refine il (show a=An.b b from r) ?_);exact .pure w' rfl
 rwa [show(isTrue x ah (eval x ah)>>=λx=>pure x)=isTrue x ah (eval x ah) from bind_pure _]at h
theorem Hs (I:Ih au w K sf)(FO:ud au w K P Γ)(GO:∀a g,Γ a=some g->fnIn K a=true)(c:Ctx w.params K A fs L ah U ρ σ s.heap)(hd:d=U.d)(hf:VR s.heap ρ σ.length f fv)(hp:aW s.heap ρ σ.length aC first)(hn:noStar av=true):aL (model au w) A w.params K fs L [] (aI fs) ρ σ s cD (bd (eZ sf U av) λvs=>bd (gt (callable P Γ f)) λZ=>sV sf (.ca d f (aC++vs))) (callWith pos fv first (backTo pos (starEach av ah)) []) RV:=by
 subst hd;intro r aj e Q E hq;obtain hs: ∀(Q:az->aN->Prop),(∀aJ s',W w.params K fs aJ aj s'.heap->bL [] (aI fs) ρ σ.length s.heap aJ aj.length s'.heap->s'.gens=s.gens->s'.os=s.os ->
  (∀a,r=.ok a->∀b,RV s'.heap aJ aj.length a b->Q b s')/\(r=.exc->∀e,et s.heap L s'.heap e->cD s'.heap aJ aj.length->E e s')) ->
  wpAny (model au w) A (spliced (backTo pos (starEach av ah))) (λvs eL=>Kept (model au w) fv eL.heap/\wpAny (model au w) A (call fv (first++vs)) Q E eL) E s:=λQ hq=>by
  refine aG (dM e) (kA ?_) (cK ?_)
  ·clear e hq;rintro e1 rfl;exact qP I av pos c _ _ e1 _ E λaJ s' w' st g1 g2=>⟨λa h=>(nC Zq.Rs.ctorIdx h rfl),λZ=>(hq aJ s' w' st g1 g2).2 rfl⟩
  ·rintro vs bj e1 e2;refine qP I av pos c _ _ e1 _ E λbQ s1 w1 bh g1 g2=>⟨λa h xs hx=>?_,λh=>by exact nC Zq.Rs.ctorIdx h rfl⟩;(revert hx;refine dI h ?_;clear h a;intro hx);obtain kp:=c.w.kp bh (λZ h=>nomatch h) λZ h=>h;obtain u5:= hf.kp kp;obtain⟨_,aY,e3,e4⟩:∃u aY,gt (callable P Γ f) bj=some (.ok u,aY)/\sV sf (.ca U.d f (aC++vs)) aY=some (r,aj):=by
    refine aG (dM e2) (kA ?_) (cK ?_)
    ·clear e e2 hq;rintro e3 rfl;refine cy (lz e3) ?_;rintro _ _ h _;exact nC Zq.Rs.ctorIdx h rfl
    ·rintro u aY e3 e4;exact(cF u aY e3 e4)
   refine cy (lz e3) ?_;rintro u e5 _ rfl;induction u;refine⟨SD FO GO w1 u5 e5,?_⟩;refine UO I (L:=L) c.rm w1 u5 ((hp.kp kp).app hx) r aj e4 Q E λbY s2 w2 bF g3 g4=>?_;refine oA (hq bY s2 w2 (bh.trans bF) (g3.trans g1) (g4.trans g2)) ?_;rintro q1 q2;exact⟨q1,λhr e he hx=>q2 hr e (he.sub λZ=>bh.nu) hx⟩
 refine callWith_of (P:=Kept (model au w) fv) (by rw[vD hn];rfl) (λh x=>x) (Bp (vD hn) ?_);exact hs Q hq
end
open PySem.SeqAt
structure Ok (au:cB)(w:bw)(K:bz)(P:PE)(Γ:ax->Option (Nat->List V->Mo V)):Prop where
 po:qS P K
 fo:ud au w K P Γ
 go:∀a g,Γ a=some g->fnIn K a=true
 tr:au.given.tree=none
section
variable {au:cB}{w:bw}{K:bz}{P:PE}{Γ:ax->Option (Nat->List V->Mo V)}{sf:Jb->Mo An}{A:bZ}{fs:List a9}{L:ax}{ah:a9}{U:Fm}{ρ:Nat->ax}{σ:Sg}{s:aN}
theorem Ctx.kp {aj:Sg}(c:Ctx w.params K A fs L ah U ρ σ h)(st:bL [] (aI fs) ρ σ.length h aJ aj.length h'):Kp h ρ σ.length h' aJ aj.length:=c.w.kp st (λZ h=>nomatch h) λZ h=>h
theorem BW (hw:W w.params K fs ρ σ s.heap)(hv:VR s.heap ρ σ.length v x):aL (model au w) A w.params K fs L X F ρ σ s EX (gt (truth v)) (truthy x) RB:=by
 intro r aj e Q E hq;refine cy (lz e) ?_;rintro b e1 rfl rfl;have h:=(hq ρ s hw (.refl ..) rfl rfl).1 b rfl b rfl;induction v using Zq.V.casesOn with
 |none=>obtain rfl:x=fQ:=hv;(clear hq e;revert h;refine aT e1 ?_;clear e1 b;intro h);exact bq h
 |bool c=>obtain rfl:x=CE c:=hv;(clear e;refine dP e1 ?_;clear e1 c);exact Iz h
 |_=>exact nS e1
theorem QQ (c:Const)(k:Nat)(pos:aZ)(cx:Ctx w.params K A fs L ah U ρ σ s.heap):aL (model au w) A w.params K fs L [] (aI fs) ρ σ s cD (fH P Γ sf U (.Constant c k pos)) (eval (.Constant c k pos) ah) RV:=Qw c k pos cx
theorem RA (O:Ok au w K P Γ)(x:ak)(pos:aZ)(cx:Ctx w.params K A fs L ah U ρ σ s.heap):aL (model au w) A w.params K fs L [] (aI fs) ρ σ s cD (fH P Γ sf U (.Name x pos)) (eval (.Name x pos) ah) RV:=Sz O.po x pos cx
theorem Lj (h:aL (model au w) A w.params K fs L X F ρ σ s EX m t Aa):aL (model au w) A w.params K fs L X F ρ σ s EX (bd m λ|.b v=>rt v|_=>no) t RB:=by
 obtain h:=h.bind (f:=λ|.b v=>rt v|_=>no) (g:=λx=>pure x) (R':=RB) λa b aJ aj s' w' st r=>by
  (refine il (show a=An.b b from r) ?_);exact .pure w' rfl
 rwa [show(t>>=λx=>pure x)=t from bind_pure _]at h
theorem LN (h:aL (model au w) A w.params K fs L X F ρ σ s EX m t rf):aL (model au w) A w.params K fs L X F ρ σ s EX (bd m λ|.v v=>rt v|_=>no) t RV:=by
 obtain h:=h.bind (f:=λ|.v v=>rt v|_=>no) (g:=λx=>pure x) (R':=RV) λa b aJ aj s' w' st r=>by
  refine aO r ?_;clear r;rintro v rfl r;exact .pure w' r
 rwa [show(t>>=λx=>pure x)=t from bind_pure _]at h
theorem Uv (I:Ih au w K sf)(op:BoolOp)(xs:List Expr)(pos:aZ)(cx:Ctx w.params K A fs L ah U ρ σ s.heap):aL (model au w) A w.params K fs L [] (aI fs) ρ σ s cD (fH P Γ sf U (.BoolOp op xs pos)) (eval (.BoolOp op xs pos) ah) RV:=by
 rw[arm_eval_BoolOp];exact LN (I.bo op xs pos cx)
theorem TN (I:Ih au w K sf)(O:Ok au w K P Γ)(l r:Expr)(op:uc)(pos:aZ)(cx:Ctx w.params K A fs L ah U ρ σ s.heap):aL (model au w) A w.params K fs L [] (aI fs) ρ σ s cD (fH P Γ sf U (.BinOp l op r pos)) (eval (.BinOp l op r pos) ah) RV:=by
 rw[arm_eval_BinOp];refine(dR I l cx).bind λa x bQ bj s1 w1 bh ra=>?_;have c1:=cx.step w1 bh;refine(aL.hold (dR I r c1)).bind λb y bY aY s2 w2 bF rb=>?_;exact .at_ (.EC (S8 O.tr cx.rm w2 op (VR.kp (c1.kp bF) ra) rb))
theorem Tt (I:Ih au w K sf)(x:Expr)(pos:aZ)(cx:Ctx w.params K A fs L ah U ρ σ s.heap):aL (model au w) A w.params K fs L [] (aI fs) ρ σ s cD (fH P Γ sf U (.UnaryOp .Not x pos)) (eval (.UnaryOp .Not x pos) ah) RV:=by
 rw[arm_eval_UnaryOp];refine(dR I x cx).bind λa y bQ bj s1 w1 bh ra=>.at_ (.hold ?_);intro r aj e Q E hq;refine not_of ?_;refine aG (dM e) (kA ?_) (cK ?_)
 ·clear e hq;rintro e1 rfl;refine cy (lz e1) ?_;rintro _ _ h _;exact nC Zq.Rs.ctorIdx h rfl
 ·rintro b aY e1 e2;(clear e;revert hq e1;refine i7 e2 ?_;intro hq e1);refine BW (L:=L) (X:=[]) (F:=aI fs) (EX:=cD) (A:=A) (au:=au) w1 ra _ _ e1 _ E λbY s2 w2 bF g1 g2=>⟨λc hc d hd=>?_,λh=>by exact nC Zq.Rs.ctorIdx h rfl⟩;(revert hd;refine dI hc ?_;intro hd);cases(show b=d from hd);exact(hq bY s2 w2 bF g1 g2).1 _ rfl _ rfl
theorem TM (I:Ih au w K sf)(x:Expr)(pos:aZ)(cx:Ctx w.params K A fs L ah U ρ σ s.heap):aL (model au w) A w.params K fs L [] (aI fs) ρ σ s cD (fH P Γ sf U (.UnaryOp .USub x pos)) (eval (.UnaryOp .USub x pos) ah) RV:=by
 rw[arm_eval_UnaryOp];refine(dR I x cx).bind λa y bQ bj s1 w1 bh ra=>.at_ (.hold ?_);induction a using Zq.V.casesOn with
 |int i =>
  refine oE ra ?_;clear ra;rintro t rfl;exact .now (a:=.int (-i)) (λZ Z e=>dU e) w1 λQ E h=>PyProof.Rows.neg_int (h _ _ ⟨_,rfl⟩)
 |_=>exact .no
theorem Tx (I:Ih au w K sf)(t b o:Expr)(pos:aZ)(cx:Ctx w.params K A fs L ah U ρ σ s.heap):aL (model au w) A w.params K fs L [] (aI fs) ρ σ s cD (fH P Γ sf U (.IfExp t b o pos)) (eval (.IfExp t b o pos) ah) RV:=by
 rw[arm_eval_IfExp];refine(pM I t cx).bind λc d bQ bj s1 w1 bh rc=>?_;(refine ir (show c=d from rc) ?_);obtain c1:=cx.step w1 bh;clear rc;induction c with
 |true=>exact dR I b c1
 |false=>exact dR I o c1
theorem TY (I:Ih au w K sf)(l:Expr)(bW:List mw)(xs:List Expr)(pos:aZ)(cx:Ctx w.params K A fs L ah U ρ σ s.heap):aL (model au w) A w.params K fs L [] (aI fs) ρ σ s cD (fH P Γ sf U (.Compare l bW xs pos)) (eval (.Compare l bW xs pos) ah) RV:=by
 rw[arm_eval_Compare];refine(dR I l cx).bind λa x bQ bj s1 w1 bh ra=>?_;exact LN (I.ch a x bW xs pos (cx.step w1 bh) ra).1
theorem RU (I:Ih au w K sf)(O:Ok au w K P Γ)(o:Expr)(x:ak)(pos:aZ)(cx:Ctx w.params K A fs L ah U ρ σ s.heap):aL (model au w) A w.params K fs L [] (aI fs) ρ σ s cD (fH P Γ sf U (.Attribute o x pos)) (eval (.Attribute o x pos) ah) RV:=by
 obtain e1: fH P Γ sf U (.Attribute o x pos)=(match mR o with
  |false=>no
  |true=>bd (sE sf U o) λov=>sg P ov x):=rfl
 rw[e1,arm_eval_Attribute];induction hn:mR o with
 |false=>exact .no
 |true =>
  rw[C6 hn];skip;refine(dR I o cx).bind λa y bQ bj s1 w1 bh ra=>.at_ ?_;obtain hb:=(aL.hold (vs:=[y]) (Pt (L:=L) (X:=[]) (F:=aI fs) (EX:=cD) (A:=A) (au:=au) (x:=x) (ex:=true) O.po (w1.sz cx.rm.ne) w1 ra));intro r aj e Q E hq;refine aF (hb r aj e _ E λbY s2 w2 bF g1 g2=>?_);refine oA (hq bY s2 w2 bF g1 g2) ?_;rintro q1 q2;exact⟨λv hv b hb=>aF (Bj (bq (q1 v hv b hb))),q2⟩
theorem Tw (I:Ih au w K sf)(xs:List Expr)(k:Nat)(pos:aZ)(cx:Ctx w.params K A fs L ah U ρ σ s.heap):aL (model au w) A w.params K fs L [] (aI fs) ρ σ s cD (bd (eZ sf U xs) λl=>(match fits l.length with|true=>rt (.tup l)|false=>no)) (standAt pos>>=λZ=>spliced (backTo pos (starEach xs ah))>>=λvs=>newTuple vs) RV:=by
 refine .at_ ((qP I xs pos cx).bind λl vs bQ bj s1 w1 bh rl=>?_);obtain hl:= rl.len;induction hz:fits l.length with
 |false=>exact .no
 |true =>
  have hz: l.length<=16777216:=dA hz;refine .val (a:=.tup l) (λZ Z e=>dU e) w1 λQ E h=>wpAny_newTuple (h _ _ ?_ (λc o e=>dF _ e) rfl rfl) (by rw[sizeLine_eq];lia);refine(ik _ _ _ rfl (hW _ rfl) ?_);exact aW.kp ⟨bc _,λZ Z=>rfl,λb o e Z=>dF _ e,λZ Z e=>dF _ e⟩ rl
theorem R7 (I:Ih au w K sf)(xs:List Expr)(pos:aZ)(cx:Ctx w.params K A fs L ah U ρ σ s.heap):aL (model au w) A w.params K fs L [] (aI fs) ρ σ s cD (bd (eZ sf U xs) λl=>(match fits l.length with|true=>bd (al (.list l)) λk=>rt (.ref k)|false=>no)) (standAt pos>>=λZ=>spliced (backTo pos (starEach xs ah))>>=λvs=>newList vs) RV:=by
 refine .at_ ((qP I xs pos cx).bind λl vs bQ bj s1 w1 bh rl=>?_);obtain hl:= rl.len;induction hz:fits l.length with
 |false=>exact .no
 |true =>
  have hz: l.length<=16777216:=dA hz;refine .new (o:=.list l) (a:=.ref bj.length) (λr' aj e=>by(refine dX e ?_);exact⟨rfl,rfl⟩) (w1.sz cx.rm.ne) w1 λQ E h=>wpAny_newList (h _ s1.heap.objs.size _ (λb o e=>dF _ e) (bc _) (cF _ _ (hW _ rfl) ?_) ?_ rfl rfl) (by rw[sizeLine_eq];lia)
  ·exact aW.kp ⟨iF _,λi hi=>fV hi,λb o e Z=>dF _ e,λZ Z e=>dF _ e⟩ rl
  ·show VR _ _ _ (.ref bj.length) _;exact⟨mP _,by rw[fX]⟩
theorem RZ (pos:aZ)(cx:Ctx w.params K A fs L ah U ρ σ s.heap):aL (model au w) A w.params K fs L [] (aI fs) ρ σ s cD (fH P Γ sf U (.Dict [] [] pos)) (eval (.Dict [] [] pos) ah) RV:=by
 refine .new (o:=.dict []) (a:=.ref σ.length) (λr' aj e=>by(refine dX e ?_);exact⟨rfl,rfl⟩) (cx.w.sz cx.rm.ne) cx.w λQ E h=>?_;rw[eval_Dict_empty];refine aF (jl (xZ (h _ s.heap.objs.size _ (λb o e=>dF _ e) (bc _) ⟨[],0,hW _ rfl,λZ m=>(nomatch m),λx v q=>by(exact nS q),λx q=>rfl,bc _,by simp⟩ ?_ rfl rfl) (by exact fP _)));exact⟨mP _,by rw[fX]⟩
theorem SJ (I:Ih au w K sf)(o i:Expr)(pos:aZ)(qX:yD i=false)(cx:Ctx w.params K A fs L ah U ρ σ s.heap):aL (model au w) A w.params K fs L [] (aI fs) ρ σ s cD (bd (sE sf U o) λov=>bd (sE sf U i) λiv=>iu ov iv) (eval (.Subscript o i pos) ah) RV:=by
 rw[arm_eval_Subscript];refine(dR I o cx).bind λa x bQ bj s1 w1 bh ra=>?_;have c1:=cx.step w1 bh;refine(aL.hold (dR I i c1)).bind λb y bY aY s2 w2 bF rb=>.at_ ?_;exact Si cx.rm w2 qX (VR.kp (c1.kp bF) ra) rb
noncomputable def RO:Rl (Option V) az:=λh ρ n a x=>match a with
 |none=>x=.none
 |some v=>VR h ρ n v x
theorem zx (I:Ih au w K sf)(o:Option Expr)(cx:Ctx w.params K A fs L ah U ρ σ s.heap):aL (model au w) A w.params K fs L [] (aI fs) ρ σ s cD (lJ sf U o) (valueOrNone (evalOpt o ah)) RO:=by
 induction o with
 |none=>exact .now (a:=none) (λZ Z e=>dU e) cx.w λQ E h=>bq (h _ _ rfl)
 |some x =>
  obtain h:=(dR I x cx).bind (f:=λv=>rt (some v)) (g:=λx=>pure x) (R':=RO) λa b aJ aj s' w' st r=>.pure w' r
  rwa [show(eval x ah>>=λx=>pure x)=eval x ah from bind_pure _]at h
theorem Qk {α β γ δ:Type}{p q r s t u:α->β->γ->δ->Prop}{G:Prop}(h:∃a b c d,p a b c d/\q a b c d/\r a b c d/\s a b c d/\t a b c d/\u a b c d)(k:∀a b c d,p a b c d->q a b c d->r a b c d->s a b c d->t a b c d->u a b c d->G):G:=h.elim λa h0=>h0.elim λb h1=>h1.elim λc h2=>h2.elim λd h3=>k a b c d h3.1 h3.2.1 h3.2.2.1 h3.2.2.2.1 h3.2.2.2.2.1 h3.2.2.2.2.2
noncomputable def Mr (σ aj:Sg)(x vl vu:az)(r:Rs V):Prop:=∃p t l u,x=.str p t/\fits p.cps.toList.length=true/\vl=partValue l/\vu=partValue u/\r=.ok (.str (iz p (eR 0 (l.map (·.1)) p.cps.toList.length) (eR p.cps.toList.length (u.map (·.1)) p.cps.toList.length)))/\aj=σ
theorem P6 (e:js a b c σ=some (r,aj))(ra:RV h1 bQ n1 a x)(hb:RO h2 bY n2 b vl)(hc:RO h3 jy n3 c vu):Mr σ aj x vl vu r:=by
 unfold js at e;induction a using Zq.V.casesOn with
 |str p =>
  refine oE ra ?_;intro t e0;dsimp only at e;induction hz:fits p.cps.toList.length with
  |false=>rw[hz]at e;exact nS e
  |true =>
   rw[hz]at e;have fin:∀(l u:Option (Int×Tok)),vl=partValue l->vu=partValue u->some (Rs.ok (V.str (iz p (eR 0 (l.map (·.1)) p.cps.toList.length) (eR p.cps.toList.length (u.map (·.1)) p.cps.toList.length))),σ)=some (r,aj)->Mr σ aj x vl vu r :=
    λl u q1 q2 q=>⟨p,t,l,u,e0,hz,q1,q2,(congrArg Prod.fst (jR q)).symm,(congrArg Prod.snd (jR q)).symm⟩
   induction b with
   |none =>
    induction c with
    |none=>exact nS e
    |some c =>
     induction c using Zq.V.casesOn with
     |int j=>refine oE hc ?_;intro u q;exact fin none (some (j,u)) hb q e
     |_=>exact nS e
   |some b =>
    induction b using Zq.V.casesOn with
    |int i =>
     refine oE hb ?_;intro v q';induction c with
     |none=>exact fin (some (i,v)) none q' hc e
     |some c =>
      induction c using Zq.V.casesOn with
      |int j=>refine oE hc ?_;intro u q;exact fin (some (i,v)) (some (j,u)) q' q e
      |_=>exact nS e
    |_=>induction c<;>exact nS e
 |_=>exact nS e
theorem QP (I:Ih au w K sf)(o:Expr)(lo hi:Option Expr)(p' pos:aZ)(cx:Ctx w.params K A fs L ah U ρ σ s.heap):aL (model au w) A w.params K fs L [] (aI fs) ρ σ s cD (bd (sE sf U o) λov=>bd (lJ sf U lo) λa=>bd (lJ sf U hi) λb=>js ov a b) (eval (.Subscript o (.Slice lo hi none p') pos) ah) RV:=by
 rw[arm_eval_Subscript,arm_eval_Slice];refine(dR I o cx).bind λa x bQ bj s1 w1 bh ra=>?_;obtain c1:=cx.step w1 bh;intro r aj e Q E hq;refine aF (fy ?_);refine WJ λQ1 Oe=>?_;focus(refine aG (dM e) (kA ?_) (cK ?_);rintro e1 rfl;rotate_left;rintro b aY e1 e2;rotate_left)
 ·exact aF (zx I lo c1 _ _ e1 _ E λbY s2 w2 bF g1 g2=>⟨λa h=>(nC Zq.Rs.ctorIdx h rfl),λZ=>(hq bY s2 w2 bF g1 g2).2 rfl⟩)
 refine aF (zx I lo c1 _ _ e1 _ E λbY s2 w2 bF g1 g2=>⟨λb' hb vl AW=>?_,λh=>(nC Zq.Rs.ctorIdx h rfl)⟩);(revert AW;refine dI hb ?_;intro AW);have c2:=c1.step w2 bF;focus(refine aG (dM e2) (kA ?_) (cK ?_);rintro e3 rfl;rotate_left;rintro c eX e3 e4;rotate_left)
 ·refine aF (fy (zx I hi c2 _ _ e3 _ E λjy s3 w3 gI g3 g4=>⟨λa h=>(nC Zq.Rs.ctorIdx h rfl),λZ e he hx=>?_⟩));exact(hq jy s3 w3 (bF.trans gI) (g3.trans g1) (g4.trans g2)).2 rfl e (he.sub λZ=>bF.nu) hx
 refine aF (fy (zx I hi c2 _ _ e3 _ E λjy s3 w3 gI g3 g4=>⟨λc' hc vu Ax=>?_,λh=>(nC Zq.Rs.ctorIdx h rfl)⟩));(revert Ax;refine dI hc ?_;intro Ax);obtain kp:= c2.kp gI;refine aF (fy (bq (xZ (Oe _ _ (aF (jl ?_))))));refine Qk (P6 e4 ra AW Ax) ?_;clear e e1 e2 e3 e4 ra AW Ax kp;rintro p t l u rfl hz rfl rfl hr mL;obtain hT:=typeIs_str {s3 with heap:=s3.heap.push {cls:=.type "slice",data:=.fields [partValue l,partValue u,.none].toArray}} p t;obtain fin:wpAny (model au w) A (operate [.ref s3.heap.objs.size,.str p t] (getItem (.str p t) (.ref s3.heap.objs.size))) (λr mx=>wpAny (model au w) A (letTemporaryGo o (.str p t) r>>=λZ=>pure r) Q E mx) E {s3 with heap:=s3.heap.push {cls:=.type "slice",data:=.fields [partValue l,partValue u,.none].toArray}}:=by
  refine wpAny_operating (wpAny_getItem_str_slice (l:=l) (u:=u) (st:=none) (cO _ (hW _ rfl) rfl rfl) rfl (P8 hz λt' k'=>?_));refine aF (Bj (bq ?_));obtain k:∀b o,s3.heap.get? b=some o->(s3.heap.push {cls:=.type "slice",data:=.fields [partValue l,partValue u,.none].toArray}).get? b=some o:=λb o e=>dF _ e;rw[mL]at hq;exact(hq jy {s3 with heap:=_,toks:=k'} (w3.grow k) ((bF.trans gI).trans (.grow k)) (g3.trans g1) (g4.trans g2)).1 _ hr _ ⟨_,rfl⟩
 refine aF ?_;rw[getitemInPython_of_ne hT.not_modules];refine aF (Jx hT Pa.lookup ?_)
 first
  |exact bq (aF fin)
  |exact aF (bq (aF fin))
  |exact aF fin
end
section
variable {au:cB}{w:bw}{K:bz}{P:PE}{Γ:ax->Option (Nat->List V->Mo V)}{sf:Jb->Mo An}{A:bZ}{fs:List a9}{L:ax}{ah:a9}{U:Fm}{ρ:Nat->ax}{σ:Sg}{s:aN}
theorem O4 (I:Ih au w K sf)(O:Ok au w K P Γ)(f:ak)(p pos:aZ)(av:List Expr)(cx:Ctx w.params K A fs L ah U ρ σ s.heap) :
 aL (model au w) A w.params K fs L [] (aI fs) ρ σ s cD (fH P Γ sf U (.Call (.Name f p) av [] pos)) (eval (.Call (.Name f p) av [] pos) ah) RV:=by
 obtain e1: fH P Γ sf U (.Call (.Name f p) av [] pos)=(match noStar av with
  |false=>no
  |true=>bd (sE sf U (.Name f p)) λfv=>bd (eZ sf U av) λvs=>bd (gt (callable P Γ fv)) λZ=>sV sf (.ca U.d fv vs)):=rfl
 obtain e2:eval (.Call (.Name f p) av [] pos) ah=(eval (.Name f p) ah>>=λfv=>callWith pos fv [] (backTo pos (starEach av ah)) []):=rfl;rw[e1,e2];induction hn:noStar av with
 |false=>exact .no
 |true =>
  refine(dR I _ cx).bind λa x bQ bj s1 w1 bh ra=>?_;have af:=Hs I O.fo O.go (aC:=[]) (first:=[]) (pos:=pos) (cx.step w1 bh) rfl ra .nil hn;exact af
theorem HP:∀{av},noStar av=true->(backTo pos (starEach av ah)).all (λx=>!x.1)=true
 |[],_=>rfl
 |x::r,h=>by
  dsimp only[noStar]at h;induction hs:jX x with
  |true=>rw[hs]at h;exact fT h
  |false =>
   rw[hs]at h;rw[xX hs];exact HP (av:=r) h
theorem O7 (I:Ih au w K sf)(O:Ok au w K P Γ)(o:Expr)(x:ak)(apos pos:aZ)(av:List Expr)(cx:Ctx w.params K A fs L ah U ρ σ s.heap) :
 aL (model au w) A w.params K fs L [] (aI fs) ρ σ s cD (fH P Γ sf U (.Call (.Attribute o x apos) av [] pos)) (eval (.Call (.Attribute o x apos) av [] pos) ah) RV:=by
 obtain e1: fH P Γ sf U (.Call (.Attribute o x apos) av [] pos)=(match nY o apos pos av with
  |false=>no
  |true=>bd (sE sf U o) λov=>bd (mq P ov x) λfv=>bd (eZ sf U av) λvs=>bd (gt (callable P Γ fv.1)) λZ=>sV sf (.ca U.d fv.1 (fv.2++vs))):=rfl
 rw[e1,arm_eval_Call];induction hk:nY o apos pos av with
 |false=>exact .no
 |true =>
  unfold nY at hk;simp only[cc]at hk;refine oA hk ?_;rintro⟨⟨k1,k2⟩,k3⟩ k4;rw[C6 k1];refine(dR I o cx).bind λa y bQ bj s1 w1 bh ra=>.at_ ?_;obtain c1:= cx.step w1 bh;obtain DU: methodCallForm (av.length+([]:List Keyword).length) (backTo pos (starEach av ah)) (backToKw pos (keywordEach [] ah))=true:=by
   unfold methodCallForm;rw[HP k3];have af: av.length<30:=by simpa[yP] using k4
   simp[show backToKw pos (keywordEach [] ah)=[] from rfl,af]
  obtain Dz: (apos.endLine==pos.line)=true:=by rw[eS k2];simp
  obtain Ei: methodCallPos true o ah apos pos=pure pos:=by unfold methodCallPos;simp[Dz]
  unfold methodCall;rw[DU,Ei];show aL _ _ _ _ _ _ _ _ _ _ _ _ _ (holding [y] (getMethod y x (do return (<- importBound o ah).getD true))>>=λq=>pure pos>>=λcp=>callWith cp q.1 q.2 (backTo pos (starEach av ah)) (backToKw pos (keywordEach [] ah))) _;refine(aL.hold (O6 (L:=L) (A:=A) (au:=au) O.po w1 ra)).bind λfv q bY aY s2 w2 bF rm=>?_;rw[pure_bind];obtain c2:= c1.step w2 bF;exact Hs I O.fo O.go (pos:=pos) c2 rfl rm.1 rm.2 k3
theorem Hf (I:Ih au w K sf)(x:Expr)(cx:Ctx w.params K A fs L ah U ρ σ s.heap):aL (model au w) A w.params K fs L [] (aI fs) ρ σ s cD (bd (sE sf U x) λv=>gt (truth v)) (eval x ah>>=λv=>standAt x.pos>>=λZ=>holding [v] (truthy v)) RB :=
 (dR I x cx).bind λa y bQ bj s1 w1 bh ra=>.at_ (.hold (BW w1 ra))
theorem Qu (I:Ih au w K sf)(x:Expr)(cx:Ctx w.params K A fs L ah U ρ σ s.heap):aL (model au w) A w.params K fs L [] (aI fs) ρ σ s cD (stepT sf U x) (isTrue x ah (eval x ah)) RB:=by
 induction x using cR with
 |UnaryOp op x p =>
  induction op with
  |Not =>
   rw[arm_isTrue_UnaryOp];exact(pM I x cx).bind λc d bQ bj s1 w1 bh rc=>by(refine ir (show c=d from rc) ?_);exact .pure w1 rfl
  |_=>exact Hf I _ cx
 |BoolOp op xs p =>
  rw[arm_isTrue_BoolOp];exact Lj (I.ts op xs cx)
 |IfExp t b o p =>
  rw[arm_isTrue_IfExp];refine(pM I t cx).bind λc d bQ bj s1 w1 bh rc=>?_;(refine ir (show c=d from rc) ?_);obtain c1:=cx.step w1 bh;clear rc;induction c with
  |true=>exact pM I b c1
  |false=>exact pM I o c1
 |Compare l bW xs p =>
  rw[arm_isTrue_Compare];refine(dR I l cx).bind λa x bQ bj s1 w1 bh ra=>?_;obtain h:= (I.ch a x bW xs p (cx.step w1 bh) ra).2;obtain h2:=h.bind (f:=λa=>bd (match a with|.v v=>rt v|_=>no) λv=>gt (truth v)) (g:=λx=>pure x) (R':=RB) λa b aJ aj s' w' st r=>by
   (refine il (show a=An.v (.bool b) from r) ?_);exact .pure w' rfl
  rw[show ∀(t:Sem Bool),(t>>=λx=>pure x)=t from λt=>bind_pure _]at h2;obtain e1:=Jn _ _ _;rw[e1];exact h2
 |_=>exact Hf I _ cx
theorem aL.map {f:α->γ}(h:aL M A Pm K fs L X F ρ σ s EX m t R)(hr:∀h' aJ n a b,R h' aJ n a b->R' h' aJ n (f a) b):aL M A Pm K fs L X F ρ σ s EX (bd m λa=>rt (f a)) t R':=by
 have af:=h.bind (f:=λa=>rt (f a)) (g:=λx=>Pure.pure x) (R':=R') λa b aJ aj s' w' st r=>.pure w' (hr _ _ _ _ _ r)
 rwa [show(t>>=λx=>Pure.pure x)=t from bind_pure _]at af
theorem Uk (I:Ih au w K sf)(xs:List Expr)(pos:aZ)(cx:Ctx w.params K A fs L ah U ρ σ s.heap) :
 aL (model au w) A w.params K fs L [] (aI fs) ρ σ s cD (step P Γ sf (.es U xs)) (spliced (backTo pos (starEach xs ah))) Mp:=by
 induction xs using aQ with
 |nil=>exact .now (a:=.vs []) (λZ Z e=>dU e) cx.w λQ E h=>spliced_nil (h _ _ (aP [] rfl (.nil)))
 |cons x r =>
  obtain e1: step P Γ sf (.es U (x::r))=(match jX x with
   |true=>no
   |false=>bd (sE sf U x) λv=>bd (eZ sf U r) λl=>rt (.vs (v::l))):=rfl
  rw[e1];induction hs:jX x with
  |true=>exact .no
  |false =>
   rw[xX hs];intro rr aj e Q E hq;refine spliced_cons ?_;focus(refine aG (dM e) (kA ?_) (cK ?_);rintro e1 rfl;rotate_left;rintro v bj e1 e2;rotate_left)
   ·exact dR I x cx _ _ e1 _ E λbY s2 w2 bF g1 g2=>⟨λa h=>(nC Zq.Rs.ctorIdx h rfl),λZ=>(hq bY s2 w2 bF g1 g2).2 rfl⟩
   refine dR I x cx _ _ e1 _ E λbQ s1 w1 bh g1 g2=>⟨λv' hv y hy=>?_,λh=>(nC Zq.Rs.ctorIdx h rfl)⟩;(revert hy;refine dI hv ?_;intro hy);have c1:=cx.step w1 bh;focus(refine aG (dM e2) (kA ?_) (cK ?_);rintro e3 rfl;rotate_left;rintro l aY e3 e4;rotate_left)
   ·refine qP I r pos c1 _ _ e3 _ E λbY s2 w2 bF g3 g4=>⟨λa h=>(nC Zq.Rs.ctorIdx h rfl),λZ e he hx=>?_⟩;exact(hq bY s2 w2 (bh.trans bF) (g3.trans g1) (g4.trans g2)).2 rfl e (he.sub λZ=>bh.nu) hx
   refine qP I r pos c1 _ _ e3 _ E λbY s2 w2 bF g3 g4=>⟨λl' hl ys tB=>?_,λh=>(nC Zq.Rs.ctorIdx h rfl)⟩;(revert tB;refine dI hl ?_;intro tB);(revert e hq e2 e3 w2 bF tB;refine i7 e4 ?_;intro e hq e2 e3 w2 bF tB);exact(hq bY s2 w2 (bh.trans bF) (g3.trans g1) (g4.trans g2)).1 _ rfl _ ⟨_,rfl,by exact(ey _ _ rfl (VR.kp (c1.kp bF) hy) tB)⟩
theorem T9 (I:Ih au w K sf)(op:BoolOp)(xs:List Expr)(cx:Ctx w.params K A fs L ah U ρ σ s.heap) :
 aL (model au w) A w.params K fs L [] (aI fs) ρ σ s cD (step P Γ sf (.ts U op xs)) (allTrue op xs ah) Aa:=by
 induction xs using aQ with
 |nil=>induction op<;>exact .pure cx.w rfl
 |cons x r =>
  rw[arm_allTrue_cons];refine(pM I x cx).bind λc d bQ bj s1 w1 bh rc=>?_;cases(show c=d from rc);obtain c1:=cx.step w1 bh;induction op<;>induction c
  ·exact .pure w1 rfl
  ·exact I.ts _ r c1
  ·exact I.ts _ r c1
  ·exact .pure w1 rfl
theorem Uq (I:Ih au w K sf)(op:BoolOp)(xs:List Expr)(pos:aZ)(cx:Ctx w.params K A fs L ah U ρ σ s.heap) :
 aL (model au w) A w.params K fs L [] (aI fs) ρ σ s cD (step P Γ sf (.bo U op xs)) (boolOp pos op (evalEach xs ah)) rf:=by
 match xs with
 |[]=>exact .no
 |[x]=>exact(dR I x cx).map λh ρ n a b r=>(aP _ rfl r)
 |x::y::r =>
  show aL _ _ _ _ _ _ _ _ _ _ _ _ (bd (sE sf U x) λv=>bd (gt (truth v)) λb=>(match op,b with
   |.And,false=>rt (An.v v)
   |.Or,true=>rt (An.v v)
   |_,_=>sf (.bo U op (y::r)))) (eval x ah>>=λv=>standAt pos>>=λZ=>holding [v] (truthy v)>>=λt=>(match op,t with
   |.And,false|.Or,true=>pure v
   |_,_=>boolOp pos op (evalEach (y::r) ah))) _
  refine(dR I x cx).bind λa z bQ bj s1 w1 bh ra=>.at_ ?_;refine(aL.hold (BW w1 ra)).bind λc d bY aY s2 w2 bF rc=>?_;(refine ir (show c=d from rc) ?_);obtain c1:=cx.step w1 bh;obtain c2:=c1.step w2 bF;induction op<;>induction c
  ·exact .pure w2 (aP _ rfl (VR.kp (c1.kp bF) ra))
  ·exact I.bo _ (y::r) pos c2
  ·exact I.bo _ (y::r) pos c2
  ·exact .pure w2 (aP _ rfl (VR.kp (c1.kp bF) ra))
theorem Qj (h:gv x=false):markedBehindIn op x t=t:=by
 obtain af: behindInMarks op x=false:=by induction x using cR<;>first|rfl|exact tF h
 unfold markedBehindIn;rw[af]
theorem Vi (I:Ih au w K sf)(v:V)(left:az)(bW:List mw)(xs:List Expr)(pos:aZ)(cx:Ctx w.params K A fs L ah U ρ σ s.heap)(hv:VR s.heap ρ σ.length v left) :
 aL (model au w) A w.params K fs L [] (aI fs) ρ σ s cD (step P Γ sf (.ch U v bW xs)) (compareChain pos left bW (markedEach bW xs (evalEach xs ah))) rf /\
 aL (model au w) A w.params K fs L [] (aI fs) ρ σ s cD (step P Γ sf (.ch U v bW xs)) (testChain pos left bW (markedEach bW xs (evalEach xs ah))) (λZ Z Z a b=>a=.v (.bool b)):=by
 have more:∀(op:mw) (bW:List mw) (x:Expr) (xs:List Expr),
  aL (model au w) A w.params K fs L [] (aI fs) ρ σ s cD (bd (sE sf U x) λr=>bd (fZ op v r) λb=>(match b with
   |true=>sf (.ch U r bW xs)
   |false=>rt (.v (.bool false)))) (holding [left] (eval x ah)>>=λrv=>standAt pos>>=λZ=>holding [left,rv] (compareOp op left rv)>>=λc=>release [left,rv] [c]>>=λZ=>holding [c,rv] (truthy c)>>=λt =>
    if t then compareChain pos rv bW (markedEach bW xs (evalEach xs ah)) else pure c) rf /\
  aL (model au w) A w.params K fs L [] (aI fs) ρ σ s cD (bd (sE sf U x) λr=>bd (fZ op v r) λb=>(match b with
   |true=>sf (.ch U r bW xs)
   |false=>rt (.v (.bool false)))) (holding [left] (eval x ah)>>=λrv=>standAt pos>>=λZ=>holding [left,rv] (compareOp op left rv)>>=λc=>release [left,rv] [c]>>=λZ=>holding [c,rv] (truthy c)>>=λt =>
    if t then testChain pos rv bW (markedEach bW xs (evalEach xs ah)) else pure false) (λZ Z Z a b=>a=.v (.bool b)):=by
  intro op bW x xs;constructor <;>
  ·refine(aL.hold (dR I x cx)).bind λa y bQ bj s1 w1 bh ra=>.at_ ?_;obtain c1:=cx.step w1 bh;refine(aL.hold (CP cx.rm w1 op (VR.kp (cx.kp bh) hv) ra)).bind λb c bY aY s2 w2 bF rc=>?_;subst rc;obtain c2:= c1.step w2 bF;obtain Nf:= VR.kp (c1.kp bF) ra;refine .skip (λQ E q=>vG q) ?_;intro r aj e Q E hq;refine aF (fy (Iz ?_));induction b with
   |true =>
    first
     |exact(I.ch a y bW xs pos c2 Nf).1 r aj e Q E hq
     |exact(I.ch a y bW xs pos c2 Nf).2 r aj e Q E hq
   |false =>
    (revert hq;refine dX e ?_;intro hq);refine bq ((hq bY s2 w2 (.refl ..) rfl rfl).1 _ rfl _ ?_)
    first
     |exact rfl
     |exact(aP _ rfl rfl)
 match bW,xs with
 |[],[]=>exact⟨.no,.no⟩
 |[],_::_=>exact⟨.no,.no⟩
 |op::bW,[] =>
  obtain e0: step P Γ sf (.ch U v (op::bW) [])=no:=by induction bW using aQ<;>rfl
  rw[e0];exact⟨.no,.no⟩
 |[op],[x] =>
  obtain e1: step P Γ sf (.ch U v [op] [x])=(match gv x with
   |true=>no
   |false=>bd (sE sf U x) λr=>bd (fZ op v r) λb=>rt (.v (.bool b))):=rfl
  rw[e1];induction hs:gv x with
  |true=>exact⟨.no,.no⟩
  |false =>
   obtain e2: markedEach [op] [x] (evalEach [x] ah)=[eval x ah]:=by
    show[markedBehindIn op x (eval x ah)]=_;rw[Qj hs]
   rw[e2];constructor
   ·show aL _ _ _ _ _ _ _ _ _ _ _ _ _ (holding [left] (eval x ah)>>=λrv=>standAt pos>>=λZ=>operate [left,rv] (compareOp op left rv)) _;refine(aL.hold (dR I x cx)).bind λa y bQ bj s1 w1 bh ra=>.at_ (.EC ?_);exact(CP cx.rm w1 op (VR.kp (cx.kp bh) hv) ra).map λh ρ n b c r=>(aP _ rfl r)
   ·show aL _ _ _ _ _ _ _ _ _ _ _ _ _ (holding [left] (eval x ah)>>=λrv=>standAt pos>>=λZ=>operate [left,rv] (compareOp op left rv)>>=λc=>holding [c] (truthy c)) _;refine(aL.hold (dR I x cx)).bind λa y bQ bj s1 w1 bh ra=>.at_ ?_;refine(aL.EC (CP cx.rm w1 op (VR.kp (cx.kp bh) hv) ra)).bind λb c bY aY s2 w2 bF rc=>.hold ?_;subst rc;exact .now (a:=.v (.bool b)) (λZ Z e=>dU e) w2 λQ E h=>Iz (h _ s2.toks rfl)
 |[op],x::y::xs=>exact more op [] x (y::xs)
 |op::FN::bW,[x]=>exact more op (FN::bW) x []
 |op::FN::bW,x::y::xs=>exact more op (FN::bW) x (y::xs)
end
section
variable {P:bA}{K:bz}{fs:List a9}{ρ:Nat->ax}{σ:Sg}{h:bf}
theorem W.loc (w:W P K fs ρ σ h)(hN:N0<=a)(gJ:∀i,i<σ.length->ρ i≠a)(ho:h.get? a=some o)(hd:o.data=.dict es k)(mC:h'.get? a=some o')(dZ:o'.data=.dict fu k')(s:kx a h h'):W P K fs ρ σ h':=by
 have nI:∀x,h.get? a=some x->¬dE x:=λx e=>by
  rw[ho]at e;(refine aT e ?_);unfold dE;rw[hd];simp
 refine⟨⟨λj x e=>(w.hr.ob j x e).kp ⟨bc _,λZ Z=>rfl,λb x e im=>(s.2 b λz=>nI x (z▸e) im).trans e,λZ Z e=>(s.2 _ λz=>absurd (z▸hN) (by decide)).trans e⟩ (λx e'=>(s.2 _ (gJ j (bK e))).trans e'),w.hr.inj,w.hr.hi⟩,
  w.ba.keep (λb x h1 Z e=>(s.2 b λz=>?_).trans e) (λZ e=>(s.2 _ λz=>?_).trans e) (λb x e im=>(s.2 b λz=>nI x (z▸e) im).trans e),w.fr.keep (λb x m e=>?_) λb m=>(w.fr.ne m).2⟩
 ·rw[z]at h1;exact absurd hN (tI h1)
 ·rw[<- z]at hN;exact absurd hN (by decide)
 ·by_cases z:b=a
  ·clear hN gJ ho nI s;subst z;exact⟨o',mC,fu,k',dZ⟩
  ·refine(aP x ((s.2 b z).trans e) ?_);refine aO (jQ.mp m) ?_;rintro ah he hl;refine kB (w.fr.ff ah he) ?_;rintro _ L' o' h1 h2 h3 h4 h6;rw[h1]at hl;(revert h1 h2 h3 h4;refine dP hl ?_;clear hl L';intro h1 h2 h3 h4);rw[e]at h4;(refine dP h4 ?_);exact h6
end
set_option tactic.hygienic true in
theorem KR (h:U.ro.any (bg x)=false):cW {U with loc:=pu x v U.loc}=cW U:=by
 unfold cW;obtain af: ∀(l:List (ak×V)),(pu x v l).filter (λp=>U.ro.any (bg p.1))=l.filter (λp=>U.ro.any (bg p.1)):=λl=>by
  induction l with
  |nil=>dsimp only[pu];simp[h]
  |cons p r ih =>
   dsimp only[pu];split
   ·rename_i hq;obtain af:= eh.mp hq;clear hq ih;subst af;simp[h]
   ·rw[oN,oN,ih]
 rw[af]
theorem eK.ro (e:eK h ρ n cg ah)(hr:Zq.cW cg=Zq.cW U):eK h ρ n (Zq.cW U) ah:=hr▸e.cW
section
variable {au:cB}{w:bw}{K:bz}{P:PE}{Γ:ax->Option (Nat->List V->Mo V)}{sf:Jb->Mo An}{A:bZ}{fs:List a9}{L:ax}{ah:a9}{U:Fm}{ρ:Nat->ax}{σ:Sg}{s:aN}
theorem Ctx.kpx {aj:Sg}(c:Ctx w.params K A fs L ah U ρ σ h)(st:bL X (aI fs) ρ σ.length h aJ aj.length h')(hx:∀b,b∈X->b=ah.locals\/∀o,h.get? b=some o->¬dE o)(hX:∀b,b∈X->N0<=b):Kp h ρ σ.length h' aJ aj.length:=by
 refine⟨st.le,st.ext,λb o e im=>?_,λZ Z e=>st.keep _ _ e (λi hi z=>absurd (z▸c.w.hr.hi i hi) (by decide)) (λq=>absurd (hX _ q) (by decide)) (λq=>absurd (c.w.fr.ne q).1 (by decide)) (by decide)⟩;have nf:b∉aI fs:=λm=>by
  refine aO (jQ.mp m) ?_;rintro ah he hl;refine kB (c.w.fr.ff ah he) ?_;rintro _ L o' h1 h2 h3 h4 h6;rw[h1]at hl;cases hl;rw[e]at h4;(revert h6;refine aT h4 ?_;intro h6);refine fE h6 ?_;rintro es k hd;unfold dE at im;rw[hd]at im;simp at im
 refine st.keep b o e (λi hi z=>?_) (λq=>?_) nf λz=>?_
 ·clear nf;subst z;exact c.w.y9 hi e im
 ·refine aG (hx b q) ?_ ?_
  ·rintro rfl;refine aO c.e.ns ?_;rintro m ⟨o',es,ep,ho,hd,_⟩ _;rw[e]at ho;(revert hd;refine aT ho ?_;intro hd);unfold dE at im;rw[hd]at im;simp at im
  ·rintro hq;exact hq o e im
 ·subst z;refine aO c.w.ba.tab ?_;rintro vs q _;rw[e]at q;(revert im e;refine dP q ?_;intro im e);unfold dE at im;simp at im
theorem Ctx.uE {aj:Sg}(c:Ctx w.params K A fs L ah U ρ σ h)(st:bL [ah.locals] (aI fs) ρ σ.length h aJ aj.length h'):Kp h ρ σ.length h' aJ aj.length :=
 c.kpx st (λb m=>.inl (iD.mp m)) λb m=>by rw[iD.mp m];exact c.e.lo
theorem Ctx.to (c:Ctx w.params K A fs L ah U ρ σ h)(w':W w.params K fs aJ aj h')(r:w0 ah U h' aJ aj.length cg ()):Ctx w.params K A fs L ah cg aJ aj h':=by
 refine oA r ?_;clear r;rintro e hr;obtain hd:= congrArg Fm.d hr;obtain hd:cg.d=U.d:=hd;exact⟨by rw[hd];exact c.rm,c.hd,c.ef,w',e⟩
theorem Cv (c:Ctx w.params K A fs L ah U ρ σ h):w0 ah U h ρ σ.length U ():=⟨c.e,rfl⟩
theorem LA (cx:Ctx w.params K A fs L ah U ρ σ s.heap)(h:aL (model au w) A w.params K fs L [] (aI fs) ρ σ s cD m t R):aL (model au w) A w.params K fs L X (aI fs) ρ σ s (cX ah U) m t R :=
 h.lift λaJ aj h' w' st Z=>(cx.step w' st).e.cW
theorem B1 (x:ak)(cx:Ctx w.params K A fs L ah U ρ σ s.heap)(hv:VR s.heap ρ σ.length v y):aL (model au w) A w.params K fs L [ah.locals] (aI fs) ρ σ s (cX ah U) (gw U x v) (bindName ah x y) (w0 ah U):=by
 unfold gw;induction hk:bI x U.sc with
 |none=>exact .no
 |some k =>
  induction k with
  |«local» =>
   dsimp only;induction hr:U.ro.any (bg x) with
   |true=>exact .no
   |false =>
    dsimp only;intro r aj e Q E hq;(revert hq;refine dX e ?_;intro hq);refine wpAny_bindName ?_;refine aO cx.e.ns ?_;rintro m el hm;refine Be (cx.e.kl x hk) el (λh' lP ta=>?_) (by rw[cx.e.k];rfl);refine dG el ?_;rintro o es ep ho hd _;refine dG (id lP) ?_;rintro o' fu Oj mC dZ _;obtain w':= cx.w.loc cx.e.lo cx.e.ap ho hd mC dZ ta;have st:bL [ah.locals] (aI fs) ρ σ.length s.heap ρ σ.length h':=.at ta ⟨_,mC⟩ (.head _);have kp:=cx.uE st;refine(hq ρ {s with heap:=h',toks:=s.toks+1} w' st rfl rfl).1 _ rfl () ⟨?_,KR hr⟩;refine⟨cx.e.k,cx.e.g,cx.e.b,(aP _ lP (λz u hz=>?_)),cx.e.lo,cx.e.ap,cx.e.kl,cx.e.kg,cx.e.kc,cx.e.kk,cx.e.nm⟩;rw[wq]at hz;by_cases hx:z=x
    ·rw[if_pos hx]at hz ⊢;(refine aT hz ?_);exact(aP y rfl (hv.kp kp))
    ·rw[if_neg hx]at hz ⊢;refine aO (hm z u hz) ?_;rintro y' h1 h2;exact(aP y' h1 (h2.kp kp))
  |cell =>
   skip;refine .aX λi hi=>?_;refine .gt λu hu=>?_;refine fp (cx.e.kc x i (.inl hk) hi) ?_;rintro Nx _ oh;induction hc:ay σ i with
   |none=>rw[hc]at hu;exact nS hu
   |some o =>
    rw[hc]at hu;induction o with
    |cell aai =>
     refine aO (cx.w.hr.ob i _ hc) ?_;rintro z hz _;refine .turn (o:=.cell (some v)) (a:=U) (i:=i) (λr aj e=>?_) Nx rfl cx.w λQ E h=>wpAny_bindName (wpAny_storeName_cell cx.e.k (cx.e.kk x hk) oh hz λh' FQ ta=>h () _ ta (λkp=>?_) rfl rfl)
     ·refine aG (dM e) (kA ?_) (cK ?_)
      ·clear e;rintro e0 rfl;exact absurd (rU e0).1 (by simp)
      ·rintro c iP e1 e2;refine oA (rU e1) ?_;rintro h1 h2;(refine NA h1 ?_);(revert e e1 h2;refine i7 e2 ?_;intro e e1 h2);exact⟨rfl,h2⟩
     ·refine aO FQ ?_;rintro o' mC dZ;refine⟨⟨some y,(aP o' mC dZ),hv.kp kp⟩,?_,rfl⟩;refine aO cx.e.ns ?_;rintro m el hm;exact⟨cx.e.k,cx.e.g,cx.e.b,(aP m (el.sameBut ta λz=>cx.e.ap i Nx z.symm) (λx v q=>(hm x v q).imp λy z=>⟨z.1,z.2.kp kp⟩)),cx.e.lo,cx.e.ap,cx.e.kl,cx.e.kg,cx.e.kc,cx.e.kk,cx.e.nm⟩
    |_=>exact nS hu
  |_=>exact .no
theorem Br (h:namesOf (x::r)=some ns):∃n p ms,x=.Name n p/\ns=n::ms/\namesOf r=some ms:=by
 induction x using cR with
 |Name n p =>
  refine aO (mO.mp h) ?_;clear h;rintro ms h1 rfl;exact(ik n p ms rfl rfl h1)
 |_=>exact nS h
theorem Kj (ah:a9):∀{uw} {ns},namesOf uw=some ns->(assignEach uw ah).length=ns.length/\(assignEach uw ah).findIdx? (·.1)=none
 |[],ns,h=>by(refine aT h ?_;clear h ns);exact⟨rfl,rfl⟩
 |x::r,ns,h=>by
  refine dG (Br h) ?_;clear h;rintro n p ms rfl rfl h1;refine oA (Kj ah h1) ?_;rintro a b;refine⟨congrArg (·+1) a,?_⟩;show List.findIdx? _ ((false,assign (.Name n p) ah)::assignEach r ah)=none;rw[List.findIdx?_cons];simp[b]
inductive Stores (M:gT)(A:bZ)(ah:a9):List ak->List (az->Sem Unit)->Prop
 |nil:Stores M A ah [] []
 |cons {n:ak} {ns:List ak} {t:az->Sem Unit} {ts:List (az->Sem Unit)}:(∀y Q E s,wpAny M A (bindName ah n y) Q E s->wpAny M A (t y) Q E s)->Stores M A ah ns ts->Stores M A ah (n::ns) (t::ts)
theorem Hz:∀{uw} {ns},namesOf uw=some ns->Stores (model au w) A ah ns ((assignEach uw ah).map (·.2))
 |[],ns,h=>by(refine aT h ?_;clear h ns);exact .nil
 |x::r,ns,h=>by
  refine dG (Br h) ?_;clear h;rintro n p ms rfl rfl h1;exact .cons (λy Q E s h=>aF (jl h)) (Hz h1)
theorem Hr:∀{ns},Stores (model au w) A ah ns (ns.map λn=>bindName ah n)
 |[]=>.nil
 |n::r=>.cons (λy Q E s h=>h) Hr
theorem B5:∀{ns} {ts} {l} {vs} {U} {ρ} {σ} {s},Stores (model au w) A ah ns ts->Ctx w.params K A fs L ah U ρ σ s.heap->aW s.heap ρ σ.length l vs ->
 aL (model au w) A w.params K fs L [ah.locals] (aI fs) ρ σ s (cX ah U) (fC U ns l) (assignInOrder ts vs) (w0 ah U)
 |_,_,l,vs,U,ρ,σ,s,.nil,cx,hv=>by
  induction l using aQ with
  |nil =>
   (refine ir hv.i0 ?_);exact .pure cx.w (Cv cx)
  |cons=>exact .no
 |_,_,l,vs,U,ρ,σ,s,.cons (n:=n) (ns:=ms) (t:=t) (ts:=ts) ht h1,cx,hv=>by
  induction l using aQ with
  |nil=>exact .no
  |cons v l =>
   refine cj hv.i1 ?_;clear hv;rintro y ys rfl q1 q2;intro rr aj e Q E hq;refine aF (fy (ht _ _ _ _ ?_));focus(refine aG (dM e) (kA ?_) (cK ?_);rintro e1 rfl;rotate_left;rintro gF bj e1 e2;rotate_left)
   ·exact B1 n cx q1 _ _ e1 _ E λbY s2 w2 bF g1 g2=>⟨λa h=>(nC Zq.Rs.ctorIdx h rfl),λZ=>(hq bY s2 w2 bF g1 g2).2 rfl⟩
   refine B1 n cx q1 _ _ e1 _ E λbQ s1 w1 bh g1 g2=>⟨λcg Yo u hr=>?_,λh=>(nC Zq.Rs.ctorIdx h rfl)⟩;(revert hr;refine dI Yo ?_;intro hr);obtain c1:= cx.to w1 hr;refine B5 h1 c1 (q2.kp (cx.uE bh)) _ _ e2 Q E λbY s2 w2 bF g3 g4=>?_;refine oA (hq bY s2 w2 (bh.trans bF) (g3.trans g1) (g4.trans g2)) ?_;rintro z1 z2;refine⟨λa ha b hb=>z1 a ha b ⟨hb.1,hb.2.trans hr.2⟩,λhx e he hy=>z2 hx e (he.sub λZ=>bh.nu) ?_⟩;show eK _ _ _ (cW U) ah;rw[<- hr.2];exact hy
theorem Ie (gJ:t≠it):∀(n i:Nat) (s:aN) (Q:List az->aN->Prop),s.heap.IsListIter it t i->s.heap.IsList t items->i+n<=items.size ->
 (∀h',h'.IsListIter it t (i+n)->kx it s.heap h'->Q ((items.toList.drop i).take n) {s with heap:=h'})->wpAny (model au w) A (draw (.ref it) n) Q E s
 | 0,i,s,Q,hit,_,_,hQ=>by
  exact bq (by simpa using hQ s.heap hit (Heap.SameBut.refl ..))
 |n+1,i,s,Q,hit,ht,hle,hQ=>by
  obtain gY:i<items.size:=by lia
  refine aF (wpAny_pyNext_list_item hit ht (x:=items[i]) (by simp[gY]) λbU Dc mv=>?_);refine aF (fy (Ie gJ n (i+1) _ _ Dc (ht.extBut mv.extBut gJ) (by lia) λdN Ur DS=>bq ?_));obtain hd: items.toList.drop i=items[i]::items.toList.drop (i+1):=by simp[Pn,gY]
  obtain af:= hQ dN (by rw[show i+(n+1)=i+1+n by lia];exact Ur) (mv.trans DS);rw[hd,List.take_succ_cons]at af;exact af
theorem OK {E:az->aN->Prop}{t:ax}{items:Array az}{Q:List az->aN->Prop}(hh:A.handled=none)(ht:s.heap.IsList t items)
 (hQ:∀h',nR s.heap.objs.size s.heap h'->Q items.toList {s with heap:=h'}):wpAny (model au w) A (unpackItems (.ref t) items.size none) Q E s:=by
 have gY:t≠s.heap.objs.size:=by refine aO ht ?_;rintro o ho _;exact iE (jD ho)
 skip;refine aF ?_
 ·skip;refine aF (Jx ht.typeIs slot_list_iter.lookup ?_);refine bq ?_;skip;refine aF (fy (wpAny_pyIter_list ht ?_));refine aF (fy (Ie gY items.size 0 _ _ (cO _ (hW _ rfl) rfl rfl) (ht.push _) (by lia) λbU Dc mv=>?_));obtain X2: y4 items.size (List.drop 0 items.toList)=items.toList:=by
   rw[rK];exact u9 (by simp)
  rw[X2];rw[if_neg (by simp)];obtain V4:=(ht.push _).extBut mv.extBut gY;refine aF (fy (wpAny_pyNext_list_end hh Dc V4 (by simp) λdN wu=>?_));skip;refine bq (hQ dN λb o hb e=>wu b o hb (mv.extBut b o hb (dF _ e)))
noncomputable def itemsOf (v:V)(σ:Sg):Option (List V):=match v with
 |.tup l=>some l
 |.ref i=>listAt i σ
 |_=>none
theorem KQ {E:az->aN->Prop}(cx:Ctx w.params K A fs L ah U ρ σ s.heap){v:V}{x:az}{l:List V}{n:Nat}(hv:VR s.heap ρ σ.length v x)(hl:itemsOf v σ=some l)(hn:n=l.length){Q:List az->aN->Prop}
 (h:∀h' vs,(∀b o,s.heap.get? b=some o->h'.get? b=some o)->aW s.heap ρ σ.length l vs->Q vs {s with heap:=h'}):wpAny (model au w) A (unpackItems x n none) Q E s:=by
 obtain ext:∀{h':bf},nR s.heap.objs.size s.heap h'->∀b o,s.heap.get? b=some o->h'.get? b=some o:=λhe b o e=>he b o (iE (jD e)) e;induction v using Zq.V.casesOn with
 |tup m =>
  (revert hv;refine dP hl ?_;intro hv);refine dG hv ?_;clear hv;rintro a ys k rfl h1 h2;obtain hs: n=ys.size:=by rw[hn];obtain af:= h2.len;simpa using af.symm
  clear hn;subst hs;exact wpAny_unpackItems_tuple cx.rm.hn (iG h1) λh' he=>h h' _ (ext he) h2
 |ref i =>
  refine oA hv ?_;clear hv;rintro hi rfl;refine iq (lh cx.w hl) ?_;rintro _ ys k h1 h2;obtain hs: n=ys.size:=by rw[hn];obtain af:= h2.len;simpa using af.symm
  clear hn;subst hs;exact OK cx.rm.hn (fR h1) λh' he=>h h' _ (ext he) h2
 |_=>exact nS hl
theorem Qg:fg P sf U v (.Tuple xs k p)=bd (aX (namesOf xs)) λns=>(match v with
 |.tup l=>(match fb ns l with
  |true=>fC U ns l
  |false=>no)
 |.ref i=>bd (gt (listAt i)) λl=>(match fb ns l with
  |true=>fC U ns l
  |false=>no)
 |_=>no):=rfl
theorem CV (e:fg P sf U v (.Tuple xs k p) σ=some (r,aj)):∃ns l,namesOf xs=some ns/\itemsOf v σ=some l/\ns.length=l.length/\fC U ns l σ=some (r,aj):=by
 rw[Qg]at e;induction hn:namesOf xs with
 |none=>rw[hn]at e;exact nS e
 |some ns =>
  rw[hn]at e;induction v using Zq.V.casesOn with
  |tup l =>
   obtain e:(match fb ns l with
    |true=>fC U ns l
    |false=>no) σ=some (r,aj):=e
   induction hs:fb ns l with
   |false=>rw[hs]at e;exact nS e
   |true=>rw[hs]at e;exact(dp ns l rfl rfl (yd hs) e)
  |ref i =>
   obtain e:bd (gt (listAt i)) (λl=>(match fb ns l with
    |true=>fC U ns l
    |false=>no)) σ=some (r,aj):=e
   refine aG (dM e) (kA ?_) (cK ?_)
   ·clear e;rintro e1 rfl;refine cy (lz e1) ?_;rintro _ _ h _;exact nC Zq.Rs.ctorIdx h rfl
   ·rintro l bj e1 e2;refine cy (lz e1) ?_;clear e e1;rintro l' h1 h2 rfl;(revert h1;refine dI h2 ?_;intro h1);induction hs:fb ns l with
    |false=>rw[hs]at e2;exact nS e2
    |true=>rw[hs]at e2;exact(dp ns l rfl h1 (yd hs) e2)
  |_=>exact nS e
theorem wD (cx:Ctx w.params K A fs L ah U ρ σ s.heap)(h:aL (model au w) A w.params K fs L [] (aI fs) ρ σ s cD m t R)(hf:∀a b aJ aj s',Ctx w.params K A fs L ah U aJ aj s'.heap->bL [] (aI fs) ρ σ.length s.heap aJ aj.length s'.heap->R s'.heap aJ aj.length a b->aL (model au w) A w.params K fs L X (aI fs) aJ aj s' (cX ah U) (f a) (g b) R'):aL (model au w) A w.params K fs L X (aI fs) ρ σ s (cX ah U) (bd m f) (t>>=g) R':=by
 intro r aj e Q E hq;refine aF ?_;refine aG (dM e) (kA ?_) (cK ?_)
 ·rintro e1 rfl;refine h _ _ e1 _ E λaJ s' w' st g1 g2=>⟨λa q=>by(exact nC Zq.Rs.ctorIdx q rfl),λZ e he Z=>?_⟩;exact(hq aJ s' w' (st.sub (λZ h=>nomatch h) (λZ h=>.inl h) λZ h=>.inl h) g1 g2).2 rfl e he (cx.step w' st).e.cW
 ·rintro a bj e1 e2;refine h _ _ e1 _ E λaJ s' w' st g1 g2=>⟨λa' q b hb=>?_,λq=>by exact nC Zq.Rs.ctorIdx q rfl⟩;(revert hb;refine dI q ?_;intro hb);refine hf a b aJ bj s' (cx.step w' st) st hb r aj e2 Q E λbY s2 w2 bF g3 g4=>?_;refine oA (hq bY s2 w2 ((st.sub (λZ h=>nomatch h) (λZ h=>.inl h) λZ h=>.inl h).trans bF) (g3.trans g1) (g4.trans g2)) ?_;rintro q1 q2;exact⟨q1,λhr e he hx=>q2 hr e (he.sub λZ=>st.nu) hx⟩
theorem ze (I:Ih au w K sf)(O:Ok au w K P Γ)(t:Expr)(cx:Ctx w.params K A fs L ah U ρ σ s.heap)(hv:VR s.heap ρ σ.length v y):aL (model au w) A w.params K fs L [ah.locals] (aI fs) ρ σ s (cX ah U) (fg P sf U v t) (assign t ah y) (w0 ah U):=by
 induction t using cR with
 |Name x p=>rw[arm_assign_Name];exact .at_ (B1 x cx hv)
 |Attribute o x p =>
  rw[arm_assign_Attribute];refine LA cx ?_;refine(aL.hold (dR I o cx)).bind λa z bQ bj s1 w1 bh ra=>.at_ ?_;obtain c1:=cx.step w1 bh;refine(aL.hold (Pu O.po rfl w1 ra (VR.kp (cx.kp bh) hv))).bind λZ Z bY aY s2 w2 bF Z=>?_;obtain c2:= c1.step w2 bF;exact .now (a:=U) (λZ Z e=>dU e) w2 λQ E h=>vG (h () s2.toks (Cv c2))
 |Subscript o i p =>
  rw[arm_assign_Subscript];refine LA cx ?_;refine(aL.hold (dR I o cx)).bind λa z bQ bj s1 w1 bh ra=>?_;obtain c1:=cx.step w1 bh;refine(aL.hold (dR I i c1)).bind λb u bY aY s2 w2 bF rb=>.at_ ?_;obtain c2:= c1.step w2 bF;refine(aL.hold (Pw rfl w2 (VR.kp (c1.kp bF) ra) rb (VR.kp (c1.kp bF) (VR.kp (cx.kp bh) hv)))).bind λZ Z jy eX s3 w3 gI Z=>?_;obtain c3:= c2.step w3 gI;exact .now (a:=U) (λZ Z e=>dU e) w3 λQ E h=>vG (h () s3.toks (Cv c3))
 |Tuple xs k p =>
  rw[arm_assign_Tuple];refine .at_ ?_;intro r aj e Q E hq;refine dT (CV e) ?_;rintro ns l h1 h2 h3 h4;refine oA (Kj ah h1) ?_;rintro hn xw;unfold unpack;rw[xw];refine aF (fy (KQ cx hv h2 (hn.trans h3) λh' vs keep rk=>?_));obtain w':= cx.w.grow keep;have st:bL [] (aI fs) ρ σ.length s.heap ρ σ.length h':=.grow keep;obtain c1:=cx.step w' st;refine B5 (s:={s with heap:=h'}) (Hz h1) c1 (rk.kp (cx.kp st)) r aj h4 Q E λbY s2 w2 bF g1 g2=>?_;refine oA (hq bY s2 w2 ((st.sub (λZ h=>nomatch h) (λZ h=>.inl h) λZ h=>.inl h).trans bF) g1 g2) ?_;rintro z1 z2;exact⟨z1,λhr e he hx=>z2 hr e (he.sub λZ=>st.nu) hx⟩
 |_=>exact .no
end
section
variable {M:gT}{A:bZ}{E:az->aN->Prop}{s:aN}{P:bA}{K:bz}{fs:List a9}{ρ:Nat->ax}{σ:Sg}{g:bf}{L:ax}
theorem O3 (h:ah.frame=f.frame):BP ah=BP f:=by unfold BP;rw[h]
theorem v3 {ah f:a9}{r:List a9}{e:az}{Q:Unit->aN->Prop}(eW:A.frames=some (f::r))(hf:f.frame=some L)(ef:ah.frame=some L)(w:W P K (f::r) ρ σ s.heap)(fl:et g L s.heap e)
 (pC:∀c o,g.get? c=some o->∃o',s.heap.get? c=some o')
 (h:∀h' D,dY g s.heap h' (aI (f::r)) D->mA g L h' e->Q () {s with heap:=h'}):wpAny M A (noteFrame e ah) Q E s:=by
 have Z0:=fl;refine et.casesOn fl ?_;clear fl;rintro a o vs dx es k od rfl hN hg ha hc kK hd gX jw mB kU jO iX;obtain na: ¬dE o:=tL hc;obtain rq: ∀{bU:bf} {D:List ax},dY g s.heap bU (aI (f::r)) D->∀T,bU.objs.size<=T->g.get? T=none:=λef T hT=>by
  induction q:g.get? T with
  |none=>rfl
  |some x =>
   refine oE (pC T x q) ?_;rintro o' q';refine oE (ef.l T o' q') ?_;rintro o'' tA;rw[get_none hT]at tA;exact nS tA
 have two:∀{bU:bf} {D:List ax} {head:az} {hn:Bool},bU.get? a=some o->dY g s.heap bU (aI (f::r)) D->1<vs.size ->
  wpAny M A (do let fr <- BP ah;let pl <- entryPlaceOf L hn;let b <- Hg head fr .none (rawInt L) .none pl;setField (.ref a) 1 b) Q E {s with heap:=bU}:=λ{bU D head hn} kF DE dv=>by
  have qT:=DE.w w;rw[O3 (ef.trans hf.symm)];refine HN (s:={s with heap:=bU}) eW (nB.Mb qT.fr.ff) hf kF hd dv λh' T hT k1 k2 ⟨rj,q1,q2,q3,q4⟩ ⟨oT,ts,t1,t2,t3,t4⟩=>?_;have iT:T≠a:=λz=>absurd (jD kF) (d8.mpr (z▸hT));obtain e1: dY g bU h' (aI (f::r)) [a]:=by
   refine⟨λc m=>?_,λc x q m1 m2=>k1 c x q (λz=>m1 (iD.mpr z)) m2,k2,λc x q=>?_,λc x xs q qc qd=>?_⟩
   ·(refine il (iD.mp m) ?_);exact(dg hg hN (λx q=>by rw[kF]at q;(refine aT q ?_;clear q x);exact⟨⟨_,hd⟩,na⟩))
   ·by_cases z:c=a
    ·(refine il z ?_);exact⟨_,q1⟩
    ·by_cases m:c∈aI (f::r)
     ·refine oE (k2 c x m q) ?_;rintro sl q';exact⟨_,q'⟩
     ·exact⟨x,k1 c x q z m⟩
   ·by_cases z:c=a
    ·subst z;rw[kF]at q;(revert qc qd;refine aT q ?_;intro qc qd);rw[hd]at qd;cases qd;exact(dp _ _ q1 (q2.trans qc) q4 (by simp))
    ·by_cases m:c∈aI (f::r)
     ·refine oE (k2 c x m q) ?_;rintro sl q';exact(dp _ xs q' qc qd rfl)
     ·exact(dp x xs (k1 c x q z m) qc qd rfl)
  obtain jz:=bC (qT.sz (by simp)) hT;have e2:=DE.trans e1;refine aO (yH e2 gX jw) ?_;rintro iA pk j0;have FU:(vs.setIfInBounds 1 (dn T))[1]?=some (.ref T):=by simp[dv]
  refine h _ _ e2 ⟨⟨a,rj,_,dx,es,k,iA,rfl,hN,hg,q1,q2.trans hc,q3.trans kK,q4,pk,j0.trans jw,?_,?_,(let ⟨n,v,q,c⟩:=jO;(cF n v (by simpa using q) (c.keep e2.c))),.inr (vC T oT ts FU jz (rq DE T hT) iT t1 t2 t3 (.inr t4))⟩,a,rj,_,T,rfl,q1,q4,FU⟩
  ·refine fE mB ?_;rintro s' t' q;exact(d7 s' t' ((qg j0).trans q))
  ·refine fE kU ?_;rintro s' t' q;exact(d7 s' t' ((qg j0).trans q))
 have e0:dY g s.heap s.heap (aI (f::r)) []:=⟨λZ m=>(nomatch m),λZ Z q Z Z=>q,λZ x Z q=>⟨x.slots,q⟩,λZ x q=>⟨x,q⟩,.refl _⟩;unfold noteFrame;simp only[ef];refine aG iX ?_ (yb ?_)
 ·intro h1;refine aF (jE ha hd h1 ?_);rw[if_neg (by decide)];exact two ha e0 (oG.mp h1).1
 rintro T oT ts h1 jz n9 iT hT jd fx h3;refine aF (jE ha hd h1 ?_);rw[if_pos (show(dn T != fQ)=true from by simp)];refine aG h3 ?_ ?_
 ·intro h3;refine aF (jE hT fx h3 ?_);rw[if_neg (show ¬((fQ==rawInt L)=true) from by simp[rawInt])];refine aF (rL hT fx (oG.mp h3).1 ?_);exact two ((kr _ _ iT).trans ha) (dY.set (wo jd) (i:=3) (v:=.none) n9 jz (w.tR hT fx) hT fx (vM jd)) (oG.mp h1).1
 ·intro h3;refine aF (jE hT fx h3 ?_);rw[if_pos (by simp)];exact bq (h s.heap [] e0 (Q3 Z0 a o vs T rfl ha hd h1))
theorem J3 {ah:a9}{e:az}(ef:ah.frame=some L)(w:W P K fs ρ σ s.heap)(fl:mA g L s.heap e)
 (h:∀h' D,dY g s.heap h' (aI fs) D->et g L h' e->E e {s with heap:=h'}):cameBackBy M A ah E e s:=by
 refine Ir fl ?_;clear fl;rintro⟨a,o,vs,dx,es,k,od,rfl,hN,hg,ha,hc,kK,hd,gX,jw,mB,kU,jO,iX⟩ a' o' nJ T' e1 mG dZ pN;cases e1;rw[ha]at mG;(revert dZ;refine aT mG ?_;intro dZ);rw[hd]at dZ;cases dZ;refine aG iX ?_ (yb ?_)
 ·rintro h1;rw[h1]at pN;exact nC oK (jR pN) rfl
 ·rintro T oT ts h1 jz n9 iT hT jd fx h3;have dv:3<ts.size:=by focus(refine aG h3 ?_ ?_;rintro h3;rotate_left;rintro h3;rotate_left)<;>exact(oG.mp h3).1
  skip;refine aF (jE ha hd h1 ?_);rw[if_neg (show ¬((dn T==fQ)=true) from xS)];rw[ef];skip;refine aF (jE ha hd h1 ?_);rw[if_pos (show(dn T != fQ)=true from by simp)];refine rL hT fx dv ?_;have e2:=dY.set (wo jd) (g:=g) (S:=aI fs) (i:=3) (v:=((some L:Option ax).elim fQ λf=>rawInt f)) n9 jz (w.tR hT fx) hT fx (vM jd);refine aO (yH e2 gX jw) ?_;rintro iA pk j0;obtain pJ:=xU fx (·.setIfInBounds 3 ((some L:Option ax).elim fQ λf=>rawInt f));refine h _ _ e2 ⟨a,o,vs,dx,es,k,iA,rfl,hN,hg,(kr _ _ iT).trans ha,hc,kK,hd,pk,j0.trans jw,?_,?_,(let ⟨n,v,q,c⟩:=jO;(cF n v q (c.keep e2.c))),.inr (vC T _ _ h1 jz n9 iT (ku _ hT (xN pJ)) ((Bt _ _).trans jd) pJ (.inr ?_))⟩
  ·refine fE mB ?_;rintro s' t' q;exact(d7 s' t' ((qg j0).trans q))
  ·refine fE kU ?_;rintro s' t' q;exact(d7 s' t' ((qg j0).trans q))
  ·simp[dv]
end
section
variable {au:cB}{w:bw}{K:bz}{P:PE}{Γ:ax->Option (Nat->List V->Mo V)}{sf:Jb->Mo An}{A:bZ}{fs:List a9}{L:ax}{ah:a9}{U:Fm}{ρ:Nat->ax}{σ:Sg}{s:aN}
theorem eK.kN {g h h':bf}(e:eK h ρ n U ah)(ef:dY g h h' S D)(im:∀b o,h.get? b=some o->dE o->h'.get? b=some o)(hS:∀b,b∈S->N0<=b):eK h' ρ n U ah:=by
 refine aO e.ns ?_;rintro m ⟨o,es,ep,ho,hd,r⟩ hm;refine⟨e.k,e.g,e.b,(aP m ?_ (λx v q=>(hm x v q).imp λy z=>⟨z.1,z.2.kp ⟨bc _,λZ Z=>rfl,im,λZ Z ho=>ef.k _ _ ho (λm=>absurd (ef.d _ m).2.1 (by decide)) λm=>absurd (hS _ m) (by decide)⟩⟩)),e.lo,e.ap,e.kl,e.kg,e.kc,e.kk,e.nm⟩;obtain nD: ah.locals∉D:=λm=>by
  refine oA ((ef.d _ m).2.2 _ ho) ?_;rintro⟨vs,z⟩ _;rw[hd]at z;exact nC jB z rfl
 by_cases q:ah.locals∈S
 ·refine oE (ef.s _ _ q ho) ?_;rintro sl z;exact(ik _ es ep z hd r)
 ·exact(ik o es ep (ef.k _ _ ho nD q) hd r)
theorem dY.im {P:bA}(e:dY g h h' (aI fs) D)(w:W P K fs ρ σ h):∀b o,h.get? b=some o->dE o->h'.get? b=some o:=λb o hb im=>by
 refine e.k _ _ hb (λm=>((e.d _ m).2.2 o hb).2 im) λm=>?_;refine aO (jQ.mp m) ?_;rintro ah he hl;refine yj (w.fr.ff ah he) ?_;rintro _ L o' h1 h2 h3 h4 es k hd;rw[h1]at hl;(revert h1 h2 h3 h4;refine dP hl ?_;clear hl L;intro h1 h2 h3 h4);rw[hb]at h4;(revert hd;refine aT h4 ?_;clear h4 o';intro hd);unfold dE at im;rw[hd]at im;simp at im
theorem yR {X:List ax}{FP cP:Nat->ax}{DY:Sg}{cQ:Nat}{eM g:bf}{e:az}{EX:az->aN->Prop}(cx:Ctx w.params K A fs L ah U FP DY eM)(hw:W w.params K fs ρ σ s.heap)(st:bL X (aI fs) cP cQ g ρ σ.length s.heap)(fl:et g L s.heap e)
 (hx:cX ah U s.heap ρ σ.length)
 (h:∀h',W w.params K fs ρ σ h'->bL X (aI fs) cP cQ g ρ σ.length h'->mA g L h' e->cX ah U h' ρ σ.length->EX e {s with heap:=h'}):notedBy (model au w) A ah EX e s:=by
 refine dc cx.hd ?_;rintro f r rfl hf;skip;exact v3 cx.rm.fr hf cx.ef hw fl st.live λh' D ef iV=>h h' (ef.w hw) (ef.tc st λb m=>.inr m) iV (eK.kN hx ef (ef.im hw) λZ m=>(hw.fr.ne m).1)
theorem KY {X:List ax}{FP cP:Nat->ax}{DY:Sg}{cQ:Nat}{eM g:bf}{e:az}{EX:az->aN->Prop}(cx:Ctx w.params K A fs L ah U FP DY eM)(hw:W w.params K fs ρ σ s.heap)(st:bL X (aI fs) cP cQ g ρ σ.length s.heap)(fl:mA g L s.heap e)
 (hx:cX ah U s.heap ρ σ.length)
 (h:∀h',W w.params K fs ρ σ h'->bL X (aI fs) cP cQ g ρ σ.length h'->et g L h' e->cX ah U h' ρ σ.length->EX e {s with heap:=h'}):cameBackBy (model au w) A ah EX e s :=
 J3 cx.ef hw fl λh' D ef iV=>h h' (ef.w hw) (ef.tc st λb m=>.inr m) iV (eK.kN hx ef (ef.im hw) λZ m=>(hw.fr.ne m).1)
theorem bL.wide (a:bL [] F ρ n h aJ n' h'):bL X F ρ n h aJ n' h':=a.sub (λZ h=>nomatch h) (λZ h=>.inl h) λZ h=>.inl h
theorem cX.of (h:cW cg=cW U):cX ah cg=cX ah U:=by unfold cX;rw[h]
theorem UM (I:Ih au w K sf)(t:Expr)(b:List bO)(cx:Ctx w.params K A fs L ah U ρ σ s.heap) :
 MN (model au w) A w.params K fs L [ah.locals] (aI fs) ρ σ s (cX ah U) (step P Γ sf (.wh U t b)) (.whileLoop t b [] ah) (RF ah U):=by
 intro r aj e R hq;refine BQ ?_;show wpAny _ A ((whileTurn t b [] ah).onRaise (λx=>do noteFrame x ah;theTreesLotGoes x)) _ _ s;refine wpAny_noted ?_;skip;refine aF ?_;focus(refine aG (dM e) (kA ?_) (cK ?_);rintro e1 rfl;rotate_left;rintro c bj e1 e2;rotate_left)
 ·refine pM I t cx _ _ e1 _ _ λbQ s1 w1 bh g1 g2=>⟨λa h=>(nC Zq.Rs.ctorIdx h rfl),λZ e he Z=>?_⟩;exact yR cx w1 (X:=[ah.locals]) bh.wide he (cx.step w1 bh).e.cW λh' w' bD fl hx=>(hq bQ {s1 with heap:=h'} w' bD g1 g2).2 rfl e fl hx
 refine pM I t cx _ _ e1 _ _ λbQ s1 w1 bh g1 g2=>⟨λa h d hd=>?_,λh=>(nC Zq.Rs.ctorIdx h rfl)⟩;(revert hd;refine dI h ?_;clear h a;intro hd);(refine ir (show c=d from hd) ?_);have c1:=cx.step w1 bh;have bh:bL [ah.locals] (aI fs) ρ σ.length s.heap bQ bj.length s1.heap:=bh.wide;clear e1 hd;induction c with
 |false =>
  cases e2;exact aF (vB (bq ((hq bQ s1 w1 bh g1 g2).1 _ rfl _ (dp (.next) U rfl rfl c1.e rfl))))
 |true =>
  obtain e2:bd (sF sf (.ss U b)) (λq=>(match q.1 with
   |.next=>sf (.wh q.2 t b)
   |.brk=>rt (.f .next q.2)
   |.ret v=>rt (.f (.ret v) q.2))) bj=some (r,aj):=e2
  refine aF ?_;refine aG (dM e2) (kA ?_) (cK ?_)
  ·rintro e3 rfl;refine aG (sh e3) (kA ?_) (cK ?_)
   ·rintro _ e3;refine I.ss b c1 _ _ e3 _ _ λbY s2 w2 bF g3 g4=>⟨λa h=>(nC Zq.Rs.ctorIdx h rfl),λZ e he hx=>?_⟩;exact yR cx w2 (X:=[ah.locals]) (bh.trans bF) (he.sub λZ=>bh.nu) hx λh' w' bD fl hx=>(hq bY {s2 with heap:=h'} w' bD (g3.trans g1) (g4.trans g2)).2 rfl e fl hx
   ·rintro _ _ h _;exact nC Zq.Rs.ctorIdx h rfl
  ·rintro q aY e3 e4;refine aG (sh e3) (kA ?_) (cK ?_)
   ·rintro h _;exact nC Zq.Rs.ctorIdx h rfl
   ·rintro fl uJ xH e5;(clear e3;revert e4;refine AV xH ?_;clear xH q;intro e4);refine I.ss b c1 _ _ e5 _ _ λbY s2 w2 bF g3 g4=>⟨λa h f hf=>?_,λh=>(nC Zq.Rs.ctorIdx h rfl)⟩;(revert hf;refine dI h ?_;clear h a;intro hf);refine dT hf ?_;clear hf;rintro _ _ h0 cC kj gZ;cases h0;have kG:=bh.trans bF;have c2:=c1.to w2 ⟨kj,gZ⟩;clear e5;induction fl with
    |next =>
     obtain rfl:=cC;refine bq ⟨rfl,?_⟩;refine I.wh t b c2 r aj e4 R λjy s3 w3 gI g5 g6=>?_;refine oA (hq jy s3 w3 (kG.trans gI) (g5.trans (g3.trans g1)) (g6.trans (g4.trans g2))) ?_;rintro q1 q2;refine⟨λa ha f hf=>?_,λhx e he hy=>?_⟩
     ·refine dT hf ?_;rintro oq cg z0 z1 z2 z3;exact q1 a ha f (dp oq cg z0 z1 z2 (z3.trans gZ))
     ·rw[cX.of gZ]at hy;exact q2 hx e ⟨he.1.sub λZ=>kG.nu,he.2⟩ hy
    |brk =>
     obtain rfl:=cC;(revert e hq e2 w2 bF kj kG c2;refine i7 e4 ?_;intro e hq e2 w2 bF kj kG c2);exact bq ((hq bY s2 w2 kG (g3.trans g1) (g4.trans g2)).1 _ rfl _ (dp (.next) uJ rfl rfl kj gZ))
    |ret v =>
     refine aO cC ?_;clear cC;rintro x rfl hx;(revert e hq e2 w2 bF kj kG c2 hx;refine i7 e4 ?_;intro e hq e2 w2 bF kj kG c2 hx);exact bq ((hq bY s2 w2 kG (g3.trans g1) (g4.trans g2)).1 _ rfl _ ⟨.ret v,uJ,rfl,(aP x rfl hx),kj,gZ⟩)
end
section
variable {P:bA}{K:bz}{fs:List a9}{ρ:Nat->ax}{σ:Sg}{h:bf}
theorem W.but (w:W P K fs ρ σ h)(p:Apart fs ρ σ.length a)(nI:∀x,h.get? a=some x->¬dE x)(s:nR a h h'):W P K fs ρ σ h':=by
 have kp:∀b x,h.get? b=some x->dE x->h'.get? b=some x:=λb x e im=>s b x (λz=>nI x (z▸e) im) e;refine⟨⟨λj x e=>(w.hr.ob j x e).kp ⟨bc _,λZ Z=>rfl,kp,λZ Z e=>s _ _ (λz=>absurd (z▸p.hi) (by decide)) e⟩ (λx e'=>s _ x (p.own j (bK e)) e'),w.hr.inj,w.hr.hi⟩,
  w.ba.keep (λb x h1 Z e=>s b x (λz=>?_) e) (λZ e=>s _ _ (λz=>?_) e) kp,w.fr.keep (λb x m e=>(aP x (s b x (λz=>p.fr (z▸m)) e) ?_)) λb m=>(w.fr.ne m).2⟩
 ·rw[z]at h1;exact absurd p.hi (tI h1)
 ·obtain af:= p.hi;rw[<- z]at af;exact absurd af (by decide)
 ·refine aO (jQ.mp m) ?_;rintro ah he hl;refine kB (w.fr.ff ah he) ?_;rintro _ L' o' h1 h2 h3 h4 h6;rw[h1]at hl;(revert h1 h2 h3 h4;refine dP hl ?_;intro h1 h2 h3 h4);rw[e]at h4;(revert h6;refine aT h4 ?_;intro h6);exact h6
theorem bL.but (st:bL X F cP cQ g ρ n h)(s:nR a h h')(hg:g.get? a=none):bL X F cP cQ g ρ n h':=by
 have ne:∀{b o},g.get? b=some o->b≠a:=λe z=>by rw[z,hg]at e;exact nS e
 refine⟨st.le,st.ext,st.new,λc o e=>?_,λb o e h1 h2 h3 h4=>s b o (ne e) (st.keep b o e h1 h2 h3 h4),λb o m1 m2 e=>?_⟩
 ·refine oE (st.live c o e) ?_;rintro o' z;exact⟨o',s c o' (ne e) z⟩
 ·refine oE (st.slot b o m1 m2 e) ?_;rintro sl z;exact⟨sl,s b _ (ne e) z⟩
theorem Apart.up (p:Apart fs ρ n I)(st:bL X F ρ n h aJ n' h')(hI:h.get? I=some o):Apart fs aJ n' I:=by
 refine⟨p.hi,λi hi z=>?_,p.fr⟩;by_cases q:i<n
 ·rw[st.ext i q]at z;exact p.own i q z
 ·obtain af:= st.new i (eN q) hi;rw[z,hI]at af;exact sN af
end
noncomputable def yQ:List String:=["tuple_iterator", "list_iterator", "range_iterator", "str_ascii_iterator", "str_iterator"]
theorem iW.obj (q:iW h ρ n I it):∃o T vs,h.get? I=some o/\o.cls=.type T/\T∈yQ/\o.data=.fields vs:=by
 induction it with
 |tup l=>refine oS q ?_;clear q;rintro a ys k i _ ⟨o,h1,h2,h3⟩ _;exact(oW o _ _ h1 h2 (by decide) h3)
 |cm a b=>exact(oW _ "range_iterator" _ q rfl (by decide) rfl)
 |str l=>refine oS q ?_;clear q;rintro ty x t i ht ⟨o,h1,h2,h3⟩ _;exact(oW o _ _ h1 h2 (by focus(refine aG ht ?_ ?_;clear ht;clear h2;rintro rfl;rotate_left;clear ht;clear h2;rintro rfl;rotate_left)<;>decide) h3)
 |list r k=>refine LH q ?_;clear q;rintro _ o h1 h2 h3;exact(oW o _ _ h1 h2 (by decide) h3)
theorem iW.kf (q:iW h ρ n I it):∀x,h.get? I=some x->¬dE x:=λx e=>by
 refine mh q.obj ?_;rintro o T vs h1 h2 h3 h4;rw[e]at h1;(revert h2 h4;refine aT h1 ?_;clear h1 o;intro h2 h4);unfold dE;rw[h2,h4];intro z;obtain af: T≠"tuple"/\T≠"method"/\T≠"range"/\T≠"code":=by
  unfold yQ at h3;simp only[cU,vn,or_false]at h3;clear h2 z;rcases h3 with rfl|rfl|rfl|rfl|rfl<;>decide
 refine nA af ?_;clear af;rintro t1 t2 t3 t4;simp[t1,t2,t3,t4]at z
theorem iW.nol {h:bf}{ρ:Nat->ax}{n:Nat}{I:ax}{it:It}(q:iW h ρ n I it)(ys:Array az)(k:Nat)(e:h.get? I=some {cls:=.type "list",data:=.seq ys k}):False:=by
 refine mh q.obj ?_;rintro o T vs h1 h2 h3 h4;rw[e]at h1;(revert h2 h4;refine aT h1 ?_;clear h1 o;intro h2 h4);exact nC jB h4 rfl
theorem iW.kp (q:iW h ρ n I it)(k:Kp h ρ n h' aJ n')(e:∀o,h.get? I=some o->h'.get? I=some o):iW h' aJ n' I it:=by
 induction it with
 |tup l=>refine oS q ?_;clear q;rintro a ys c i h0 ⟨o,h1,h2,h3⟩ h4;exact⟨a,ys,c,i,k.kf _ _ h0 (.inl (Eh rfl _ _ rfl)),(cO o (e _ h1) h2 h3),h4.kp k⟩
 |cm a b=>exact e _ q
 |str l=>refine oS q ?_;clear q;rintro ty x t i ht ⟨o,h1,h2,h3⟩ h4;exact⟨ty,x,t,i,ht,(cO o (e _ h1) h2 h3),h4⟩
 |list r c=>refine LH q ?_;clear q;rintro h0 o h1 h2 h3;exact(Wj (fK h0 k.le) o (e _ h1) h2 (by rw[k.ext r h0];exact h3))
section
variable {au:cB}{w:bw}{K:bz}{P:PE}{Γ:ax->Option (Nat->List V->Mo V)}{sf:Jb->Mo An}{A:bZ}{fs:List a9}{L:ax}{ah:a9}{U:Fm}{ρ:Nat->ax}{σ:Sg}{s:aN}
theorem IM (ho:s.heap.get? I=some o)(hc:o.cls=.type T)(hT:T∈yQ)(h:Q () s):wpAny (model au w) A (letOwnedTupleGo nX (.ref I) v) Q E s:=by
 obtain ft: (["enumerate", "zip", "dict_itemiterator", "dict_reverseitemiterator", "odict_iterator", "itertools.zip_longest", "itertools.pairwise"]:List String).contains T=false:=by
  unfold yQ at hT;simp only[cU,vn,or_false]at hT;clear hc;rcases hT with rfl|rfl|rfl|rfl|rfl<;>decide
 have main:wpAny (model au w) A (letOwnedTupleGo (.Tuple [] 0 ⟨0,0,0,0⟩) (.ref I) v) Q E s:=by
  skip;induction v with
  |ref a =>
   refine aF (wpAny_load ho ?_);clear ho;obtain⟨c,dd,dt,sl⟩:=o;(refine il hc ?_);induction dt<;>dsimp only<;>first|exact bq h|(rw[ft];exact bq h)
  |_=>exact bq h
 induction nX using cR<;>first|exact main|exact bq h
theorem Kk {E:az->aN->Prop}{I:ax}{it:It}{Q:Option az->aN->Prop}(hh:A.handled=none)(hw:W w.params K fs ρ σ s.heap)(hi:iW s.heap ρ σ.length I it){o:Option (V×It)}(hn:fB it σ=some o)
 (h0:o=none->∀h',nR I s.heap h'->Q none {s with heap:=h'})
 (h1:∀v dQ,o=some (v,dQ)->∀h' y tk,kx I s.heap h'->iW h' ρ σ.length I dQ->VR h' ρ σ.length v y->Q (some y) {s with heap:=h',toks:=tk}):wpAny (model au w) A (pyNext (.ref I)) Q E s:=by
 obtain im:= hi.kf;have MR:∀{h':bf},kx I s.heap h'->Kp s.heap ρ σ.length h' ρ σ.length:=λsb=>⟨bc _,λZ Z=>rfl,λb x e m=>(sb.2 b λz=>im x (z▸e) m).trans e,λZ Z e=>(sb.2 _ λz=>hi.nol _ _ (z▸e)).trans e⟩;induction it with
 |tup l =>
  refine oS hi ?_;clear hi;rintro a ys c i ht hit hv;induction l using aQ with
  |nil =>
   (clear h1;revert h0;refine aT hn ?_;intro h0);refine wpAny_pyNext_tuple_end hh hit (iG ht) ?_ λh' he=>h0 rfl h' he;obtain af:= hv.i0;rw[rz]at af;simpa using af
  |cons v r =>
   (revert h1;refine aT hn ?_;intro h1);refine cj hv.i1 ?_;rintro y t e1 q1 q2;obtain hy: ys[i]?=some y:=by
    obtain af:= congrArg (·[0]?) e1;simpa[List.getElem?_drop] using af
   obtain hd: ys.toList.drop (i+1)=t:=by
    obtain af:= congrArg List.tail e1;simpa using af
   refine wpAny_pyNext_tuple_item hit (iG ht) hy λh' j6 sb=>?_;obtain kp:=MR sb;obtain af:= h1 _ _ rfl h' y s.toks sb ⟨a,ys,c,i+1,kp.kf _ _ ht (.inl (Eh rfl _ _ rfl)),j6,by rw[hd];exact q2.kp kp⟩ (q1.kp kp);exact af
 |cm a b =>
  obtain hn:(if a<b then some (some (V.int a,It.cm (a+1) b)) else some none)=some o:=hn;by_cases gY:a<b
  ·rw[if_pos gY]at hn;(revert h0 h1;refine aT hn ?_;clear hn o;intro h0 h1);refine wpAny_pyNext_range_item hi (by lia) λh' j6 sb=>h1 _ _ rfl h' _ _ sb ?_ ⟨_,rfl⟩;show IsRangeIter h' I (a+1) (b-(a+1)) 1;obtain af: b-(a+1)=b-a-1:=by lia
   rw[af];exact j6
  ·rw[if_neg gY]at hn;(revert h0 h1;refine aT hn ?_;intro h0 h1);exact wpAny_pyNext_range_end hh hi (by lia) λh' he=>h0 rfl h' he
 |str l =>
  refine oS hi ?_;clear hi;rintro ty x t i oj hit hd;induction l using aQ with
  |nil =>
   (revert h0;refine aT hn ?_;intro h0);have hx:x.cps[i]?=none:=by
    rw[rz]at hd;simpa using hd
   refine aG oj ?_ ?_
   ·clear oj;rintro rfl;exact wpAny_pyNext_ascii_end hh hit hx λh' he=>h0 rfl h' he
   ·clear oj;rintro rfl;exact wpAny_pyNext_wide_end hh hit hx λh' he=>h0 rfl h' he
  |cons c r =>
   (clear h0;revert h1;refine aT hn ?_;intro h1);have hx:x.cps[i]?=some c:=by
    obtain af:= congrArg (·[0]?) hd;simpa[List.getElem?_drop] using af
   obtain dZ:x.cps.toList.drop (i+1)=r:=by
    obtain af:= congrArg List.tail hd;simpa using af
   refine aG oj ?_ ?_
   ·clear oj;rintro rfl;exact wpAny_pyNext_ascii_item hit hx λh' j6 sb=>h1 _ _ rfl h' _ _ sb (J4 _ x t (i+1) (.inl rfl) j6 dZ) ⟨_,rfl⟩
   ·clear oj;rintro rfl;exact wpAny_pyNext_wide_item hit hx λh' j6 sb=>h1 _ _ rfl h' _ _ sb (J4 _ x t (i+1) (.inr rfl) j6 dZ) ⟨_,rfl⟩
 |list r k =>
  refine oA hi ?_;rintro hr hit;unfold fB at hn;dsimp only at hn;induction hl:listAt r σ with
  |none=>rw[hl]at hn;exact nS hn
  |some l =>
   rw[hl]at hn;dsimp only at hn;refine iq (lh hw hl) ?_;rintro _ ys c e1 e2;induction hv:ay l k with
   |none =>
    rw[hv]at hn;(clear h1;revert h0;refine aT hn ?_;intro h0);refine wpAny_pyNext_list_end hh hit (fR e1) ?_ λh' he=>h0 rfl h' he;obtain fY:= e2.len;obtain af: l.length<=k:=eN λq=>by
     refine oE (y6 q) ?_;rintro z hz;rw[hv]at hz;exact nS hz
    simp at fY ⊢;lia
   |some v =>
    rw[hv]at hn;(revert h1;refine aT hn ?_;intro h1);refine aO (e2.ay hv) ?_;rintro y hy q;refine wpAny_pyNext_list_item hit (fR e1) (x:=y) (by simpa using hy) λh' j6 sb=>?_;exact h1 _ _ rfl h' y s.toks sb ⟨hr,j6⟩ (q.kp (MR sb))
theorem yZ (hw:W w.params K fs ρ σ s.heap)(hv:VR s.heap ρ σ.length v x)(e:j7 v σ=some (r,aj)):∃it,r=.ok it/\aj=σ/\((∀h',(∀b o,s.heap.get? b=some o->h'.get? b=some o)->s.heap.get? s.heap.objs.size=none->iW h' ρ σ.length s.heap.objs.size it->Q (.ref s.heap.objs.size) {s with heap:=h'})->wpAny (model au w) A (pyIter x) Q E s):=by
 have gn:s.heap.get? s.heap.objs.size=none:=get_none (bc _);have ext:∀{o:cI} (b:ax) (x:cI),s.heap.get? b=some x->(s.heap.push o).get? b=some x:=λb x e=>dF _ e;induction v using Zq.V.casesOn with
 |tup l =>
  (refine dX e ?_);refine dG hv ?_;clear hv;rintro a ys k rfl h1 h2;refine⟨_,rfl,rfl,λh=>wpAny_pyIter_tuple (iG h1) (h _ ext gn ⟨a,ys,k,0,ext _ _ h1,(cO _ (hW _ rfl) rfl rfl),?_⟩)⟩;rw[rK];exact h2.kp ⟨bc _,λZ Z=>rfl,λb o e Z=>ext b o e,λZ Z e=>ext _ _ e⟩
 |cm n =>
  unfold j7 at e;dsimp only at e;induction hz:decide (0<=n/\n<=16777216) with
  |false=>rw[hz]at e;exact nS e
  |true =>
   rw[hz]at e;(refine dX e ?_);obtain hz:=of_decide_eq_true hz;refine ub hv ?_;clear hv;rintro a t u v rfl h1;obtain sz:G5 0 n 1=n:=by
    unfold G5;rw[if_pos (by decide)];split
    ·rw[Int.ediv_one];lia
    ·lia
   obtain sm: O9 0 n 1=true:=by
    unfold O9;rw[sz];obtain big: (16777216:Int)<2^63:=by decide
    obtain ff:∀i:Int,0<=i->i<=16777216->OJ i=true:=λi h1 h2=>by
     unfold OJ;simp only[cc,decide_eq_true_eq];lia
    rw[ff n hz.1 hz.2,ff 0 (by decide) (by decide),ff 1 (by decide) (by decide)];rw[if_pos (by decide),show n+(1-1)=n by lia,ff n hz.1 hz.2];simp
   refine(cO _ rfl rfl (λh=>wpAny_pyIter_range h1 sm (h _ ext gn ?_)));show IsRangeIter _ _ 0 (n-0) 1;rw[Int.sub_zero];obtain af:= hW s.heap (o:={cls:=.type "range_iterator",data:=.fields #[rawInt 0,rawInt (G5 0 n 1),rawInt 1]}) rfl;rw[sz]at af ⊢;exact af
 |str y =>
  (refine dX e ?_);refine oE hv ?_;clear hv;rintro t rfl;refine(cO _ rfl rfl (λh=>?_));induction ha:y.cps.all (·<128) with
  |true=>exact wpAny_pyIter_ascii ha (h _ ext gn ⟨_,y,t,0,.inl rfl,(cO _ (hW _ rfl) rfl rfl),rfl⟩)
  |false=>exact wpAny_pyIter_wide ha (h _ ext gn ⟨_,y,t,0,.inr rfl,(cO _ (hW _ rfl) rfl rfl),rfl⟩)
 |ref i =>
  refine oA hv ?_;clear hv;rintro hi rfl;refine aG (dM e) (kA ?_) (cK ?_)
  ·clear e;rintro e1 rfl;refine cy (lz e1) ?_;rintro _ _ h _;exact nC Zq.Rs.ctorIdx h rfl
  ·rintro l bj e1 e2;refine cy (lz e1) ?_;rintro l' h1 h2 rfl;(revert h1;refine dI h2 ?_;intro h1);(revert hw e hi e1 h1;refine i7 e2 ?_;intro hw e hi e1 h1);refine iq (lh hw h1) ?_;rintro _ ys k h3 h4;exact⟨_,rfl,rfl,λh=>wpAny_pyIter_list (fR h3) (h _ ext gn ⟨hi,(cO _ (hW _ rfl) rfl rfl)⟩)⟩
 |_=>exact nS e
end
section
variable {au:cB}{w:bw}{K:bz}{P:PE}{Γ:ax->Option (Nat->List V->Mo V)}{sf:Jb->Mo An}{A:bZ}{fs:List a9}{L:ax}{ah:a9}{U:Fm}{ρ:Nat->ax}{σ:Sg}{s:aN}
theorem eK.but (e:eK h ρ n U ah)(hI:∀o,h.get? I=some o->∃vs,o.data=.fields vs)(nI:∀x,h.get? I=some x->¬dE x)(s:nR I h h'):eK h' ρ n U ah:=by
 refine aO e.ns ?_;rintro m ⟨o,es,ep,ho,hd,r⟩ hm;refine⟨e.k,e.g,e.b,⟨m,(ik o es ep (s _ _ (λz=>?_) ho) hd r),λx v q=>(hm x v q).imp λy z=>⟨z.1,z.2.kp ⟨bc _,λZ Z=>rfl,λb x e im=>s b x (λz=>nI x (z▸e) im) e,λZ Z e=>s _ _ (λz=>by refine oE (hI _ (z▸e)) ?_;rintro vs q;exact nC jB q rfl) e⟩⟩⟩,e.lo,e.ap,e.kl,e.kg,e.kc,e.kk,e.nm⟩;refine oE (hI o (z▸ho)) ?_;rintro vs q;rw[hd]at q;exact nC jB q rfl
theorem Ctx.but (c:Ctx w.params K A fs L ah U ρ σ h)(hi:iW h ρ σ.length I it)(ap:Apart fs ρ σ.length I)(s:nR I h h'):Ctx w.params K A fs L ah U ρ σ h':=by
 refine mh hi.obj ?_;rintro o T vs h1 h2 h3 h4;exact⟨c.rm,c.hd,c.ef,c.w.but ap hi.kf s,c.e.but (λo' e=>by rw[h1]at e;(refine aT e ?_;clear e o');exact⟨vs,h4⟩) hi.kf s⟩
theorem Ux (I:Ih au w K sf)(O:Ok au w K P Γ)(t:Expr)(it:It)(b:List bO)(i:ax)(cP:Nat->ax)(cQ:Nat)(eM:bf)(cx:Ctx w.params K A fs L ah U ρ σ s.heap)(hi:iW s.heap ρ σ.length i it)(ap:Apart fs ρ σ.length i)
 (o8:bL [ah.locals] (aI fs) cP cQ eM ρ σ.length s.heap) (gi:eM.get? i=none) :
 wK (model au w) A w.params K fs L [ah.locals] (aI fs) cP cQ eM σ s (cX ah U) (step P Γ sf (.fo U t it b)) (.forLoop t (.ref i) b [] ah) (RF ah U):=by
 intro r aj e R hq;refine BQ ?_;show wpAny _ A ((forTurn t (.ref i) b [] ah).onRaise (λx=>do noteFrame x ah;theTreesLotGoes x)) _ _ s;refine wpAny_noted ?_;skip;focus(refine aG (dM e) (kA ?_) (cK ?_);clear e hq;rintro e1 rfl;rotate_left;rintro o bj e1 e2;rotate_left)
 ·refine cy (lz e1) ?_;rintro _ _ h _;exact nC Zq.Rs.ctorIdx h rfl
 refine cy (lz e1) ?_;rintro o' hn h2 rfl;(revert hn;refine dI h2 ?_;clear h2 o';intro hn);refine aF (jl (aF (wpAny_onRaise (Kk cx.rm.hn cx.w hi hn (λho h' he=>?_) λv dQ ho h' y tk sb j6 hy=>?_))))
 ·subst ho;(revert hq cx hi ap o8;refine i7 e2 ?_;intro hq cx hi ap o8);obtain c1:=cx.but hi ap he;refine bq ⟨rfl,codeAny_block (vB ?_)⟩;exact(hq ρ {s with heap:=h'} c1.w (o8.but he gi) rfl rfl).1 _ rfl _ (dp (.next) U rfl rfl c1.e rfl)
 ·subst ho;obtain c1:=cx.but hi ap sb.extBut;have bh:=o8.but sb.extBut gi;refine mh j6.obj ?_;rintro oI T vI i1 i2 i3 i4;refine aF (IM (s:={s with heap:=h',toks:=tk}) i1 i2 i3 ?_);refine aF ?_;obtain e2:bd (fg P sf U v t) (λU=>bd (sF sf (.ss U b)) λq=>(match q.1 with
   |.next=>sf (.fo q.2 t dQ b)
   |.brk=>rt (.f .next q.2)
   |.ret v=>rt (.f (.ret v) q.2))) bj=some (r,aj):=e2
  focus(refine aG (dM e2) (kA ?_) (cK ?_);rintro e3 rfl;rotate_left;rintro gF aY e3 e4;rotate_left)
  ·refine ze (s:={s with heap:=h',toks:=tk}) I O t c1 hy _ _ e3 _ _ λbY s2 w2 bF g3 g4=>⟨λa h=>(nC Zq.Rs.ctorIdx h rfl),λZ e he hx=>?_⟩;exact yR cx w2 (bh.trans bF) (he.sub λZ=>bh.nu) hx λh' w' bD fl hx=>(hq bY {s2 with heap:=h'} w' bD g3 g4).2 rfl e fl hx
  refine ze (s:={s with heap:=h',toks:=tk}) I O t c1 hy _ _ e3 _ _ λbY s2 w2 bF g3 g4=>⟨λa h u hr=>?_,λh=>(nC Zq.Rs.ctorIdx h rfl)⟩;(revert hr;refine dI h ?_;intro hr);have c2:=c1.to w2 hr;obtain kG:=bh.trans bF;refine aF ?_;refine aG (dM e4) (kA ?_) (cK ?_)
  ·rintro e5 rfl;refine aG (sh e5) (kA ?_) (cK ?_)
   ·rintro _ e5;refine I.ss b c2 _ _ e5 _ _ λjy s3 w3 gI g5 g6=>⟨λa h=>(nC Zq.Rs.ctorIdx h rfl),λZ e he hx=>?_⟩;rw[cX.of hr.2]at hx;exact yR cx w3 (kG.trans gI) (he.sub λZ=>kG.nu) hx λh' w' bD fl hx=>(hq jy {s3 with heap:=h'} w' bD (g5.trans g3) (g6.trans g4)).2 rfl e fl hx
   ·rintro _ _ h _;exact nC Zq.Rs.ctorIdx h rfl
  ·rintro q eX e5 e6;refine aG (sh e5) (kA ?_) (cK ?_)
   ·rintro h _;exact nC Zq.Rs.ctorIdx h rfl
   ·rintro fl uJ xH e7;(clear e5;revert e6;refine AV xH ?_;clear xH q;intro e6);refine I.ss b c2 _ _ e7 _ _ λjy s3 w3 gI g5 g6=>⟨λa h f hf=>?_,λh=>(nC Zq.Rs.ctorIdx h rfl)⟩;(revert hf;refine dI h ?_;clear h a;intro hf);refine dT hf ?_;clear hf;rintro _ _ h0 cC kj gZ;cases h0;have qF:=kG.trans gI;have tq:=gZ.trans hr.2;have c3:=c2.to w3 ⟨kj,gZ⟩;clear e7;induction fl with
    |next =>
     obtain rfl:=cC;refine bq ⟨rfl,?_⟩;obtain ni: ∀{h:bf} {o:cI},h.get? i=some oI->oI.data=.fields vI->i≠ah.locals:=λ{h o} _ _ z=>by
      refine aO c1.e.ns ?_;rintro m ⟨o',es,ep,ho,hd,_⟩ _;rw[<- z,i1]at ho;(revert hd;refine aT ho ?_;intro hd);rw[i4]at hd;exact nC jB hd rfl
     obtain Eu:=bF.trans gI;obtain iL:=ni (h:=h') (o:=oI) i1 i4;obtain iK: ∀o,h'.get? i=some o->s3.heap.get? i=some o:=λo e=>Eu.keep i o e (λj hj z=>ap.own j hj z.symm) (λm=>iL (iD.mp m)) ap.fr λz=>absurd (z▸ap.hi) (by decide);obtain kp:= c1.uE Eu;refine I.fo t dQ b i cP cQ eM c3 (j6.kp kp iK) (Apart.up ap Eu i1) qF gi r aj e6 R λuI s4 w4 lS g7 g8=>?_;refine oA (hq uI s4 w4 lS (g7.trans (g5.trans g3)) (g8.trans (g6.trans g4))) ?_;rintro q1 q2;refine⟨λa ha f hf=>?_,λhx e he hy=>?_⟩
     ·refine dT hf ?_;rintro oq cg z0 z1 z2 z3;exact q1 a ha f (dp oq cg z0 z1 z2 (z3.trans tq))
     ·rw[cX.of tq]at hy;exact q2 hx e he hy
    |brk =>
     obtain rfl:=cC;(revert hq e e2 e4 w3 gI kj qF c3;refine i7 e6 ?_;intro hq e e2 e4 w3 gI kj qF c3);exact bq ((hq jy s3 w3 qF (g5.trans g3) (g6.trans g4)).1 _ rfl _ (dp (.next) uJ rfl rfl kj tq))
    |ret v =>
     refine aO cC ?_;clear cC;rintro x rfl hx;(revert hq e e2 e4 w3 gI kj qF c3 hx;refine i7 e6 ?_;intro hq e e2 e4 w3 gI kj qF c3 hx);exact bq ((hq jy s3 w3 qF (g5.trans g3) (g6.trans g4)).1 _ rfl _ ⟨.ret v,uJ,rfl,(aP x rfl hx),kj,tq⟩)
theorem DW (h:aL (model au w) A w.params K fs L X (aI fs) ρ σ s (cX ah U) m t (RF ah U))(hr:∀h' aJ n fl cg f,F6 h' aJ n fl f->eK h' aJ n cg ah->cW cg=cW U->R h' aJ n (fl,cg) f):aL (model au w) A w.params K fs L X (aI fs) ρ σ s (cX ah U) (bd m λ|.f fl U=>rt (fl,U)|_=>no) t R:=by
 obtain h:=h.bind (f:=λ|.f fl U=>rt (fl,U)|_=>no) (g:=λx=>pure x) (R':=R) λa b aJ aj s' w' st r=>by
  refine dT r ?_;clear r;rintro fl cg rfl r1 r2 r3;exact .pure w' (hr _ _ _ _ _ _ r1 r2 r3)
 rwa [show(t>>=λx=>pure x)=t from bind_pure _]at h
noncomputable def RS (ah:a9)(U:Fm):Rl (Fl×Fm) j9:=λh ρ n q f=>F6 h ρ n q.1 f/\eK h ρ n q.2 ah/\cW q.2=cW U
theorem BX (I:Ih au w K sf)(b:List bO)(cx:Ctx w.params K A fs L ah U ρ σ s.heap):aL (model au w) A w.params K fs L [ah.locals] (aI fs) ρ σ s (cX ah U) (sF sf (.ss U b)) (execs b ah) (RS ah U) :=
 DW (I.ss b cx) λZ Z Z Z Z Z h1 h2 h3=>(dg h1 h2 h3)
theorem UY (I:Ih au w K sf)(xs:List bO)(cx:Ctx w.params K A fs L ah U ρ σ s.heap) :
 aL (model au w) A w.params K fs L [ah.locals] (aI fs) ρ σ s (cX ah U) (step P Γ sf (.ss U xs)) (execs xs ah) (RF ah U):=by
 induction xs using aQ with
 |nil =>
  intro r aj e Q E hq;(revert hq;refine dX e ?_;intro hq);exact vB ((hq ρ s cx.w (.refl ..) rfl rfl).1 _ rfl _ (dp (.next) U rfl rfl cx.e rfl))
 |cons x r =>
  show aL _ _ _ _ _ _ _ _ _ _ _ _ (bd (sF sf (.s U x)) λq=>(match q.1 with
   |.next=>sf (.ss q.2 r)
   |fl=>rt (.f fl q.2))) (exec x ah>>=λf=>(match f with
   |.next=>execs r ah
   |f=>pure f)) _
  obtain h1:aL (model au w) A w.params K fs L [ah.locals] (aI fs) ρ σ s (cX ah U) (sF sf (.s U x)) (exec x ah) (RS ah U):=DW (I.s x cx) λZ Z Z Z Z Z h1 h2 h3=>(dg h1 h2 h3);intro rr aj e Q E hq;refine aF ?_;focus(refine aG (dM e) (kA ?_) (cK ?_);rintro e1 rfl;rotate_left;rintro q bj e1 e2;rotate_left)
  ·exact h1 _ _ e1 _ E λbQ s1 w1 bh g1 g2=>⟨λa h=>(nC Zq.Rs.ctorIdx h rfl),λZ=>(hq bQ s1 w1 bh g1 g2).2 rfl⟩
  refine h1 _ _ e1 _ E λbQ s1 w1 bh g1 g2=>⟨λa h f hf=>?_,λh=>(nC Zq.Rs.ctorIdx h rfl)⟩;(revert hf;refine dI h ?_;clear h a;intro hf);refine fp hf ?_;clear hf;rintro cC he hr;obtain⟨fl,gF⟩:=q;induction fl with
  |next =>
   obtain rfl:=cC;refine I.ss r (cx.to w1 ⟨he,hr⟩) rr aj e2 Q E λbY s2 w2 bF g3 g4=>?_;refine oA (hq bY s2 w2 (bh.trans bF) (g3.trans g1) (g4.trans g2)) ?_;rintro q1 q2;refine⟨λa ha f hf=>?_,λhx e he hy=>?_⟩
   ·refine dT hf ?_;rintro oq cg z0 z1 z2 z3;exact q1 a ha f (dp oq cg z0 z1 z2 (z3.trans hr))
   ·obtain hy:=hy;rw[cX.of hr]at hy;exact q2 hx e (he.sub λZ=>bh.nu) hy
  |brk =>
   obtain rfl:=cC;(revert hq w1 bh he;refine i7 e2 ?_;intro hq w1 bh he);exact bq ((hq bQ s1 w1 bh g1 g2).1 _ rfl _ (dp (.brk) gF rfl rfl he hr))
  |ret v =>
   refine aO cC ?_;clear cC;rintro x rfl hx;(revert hq w1 bh he hx;refine i7 e2 ?_;intro hq w1 bh he hx);exact bq ((hq bQ s1 w1 bh g1 g2).1 _ rfl _ ⟨.ret v,gF,rfl,(aP x rfl hx),he,hr⟩)
theorem B3 (h:iN x=false):swapsWith x t n ah=pure false:=by
 induction x using cR<;>first|rfl|exact tF h
theorem IG (h:gv x=false)(v:az):foldedSetIterable x ah v=pure v:=by
 induction x using cR<;>first|rfl|exact tF h
theorem Iq (h:ah.scope.kind=.function):interactive ah=false:=by unfold interactive;rw[h];rfl
theorem SH (x:Expr)(pos:aZ)(v:az):dropValue x pos v=pure .next\/dropValue x pos v=dropValue (.Yield none pos) pos v:=by
 induction x using cR<;>first|exact .inl rfl|exact .inr (by kernel_rfl)
theorem KN (h:Q .next s):wpAny (model au w) A (dropValue x pos v) Q E s:=by
 refine aG (SH x pos v) ?_ ?_
 ·intro e;rw[e];exact bq h
 ·intro e;rw[e];induction v using PySem.Value.casesOn with
  |ref=>exact aF (jl (aF (wpAny_runValue (codeAny_builtin entry_let_go (show wpAny _ _ (ret .none) _ _ s from bq (bq h))))))
  |_=>exact bq h
theorem RR (I:Ih au w K sf)(x:Expr)(pos:aZ)(cx:Ctx w.params K A fs L ah U ρ σ s.heap) :
 aL (model au w) A w.params K fs L [ah.locals] (aI fs) ρ σ s (cX ah U) (eV P sf U (.Expr x pos)) (exec (.Expr x pos) ah) (RS ah U):=by
 obtain e1: eV P sf U (.Expr x pos)=(match iN x with
  |true=>no
  |false=>bd (sE sf U x) λZ=>rt (.next,U)):=rfl
 rw[e1];induction hc:iN x with
 |true=>exact .no
 |false =>
  rw[exec_Expr ah x pos (Iq cx.e.k) (B3 hc)];refine .at_ (wD cx (dR I x cx) λa y bQ bj s1 c1 bh ra=>?_);exact .now (a:=(.next,U)) (λZ Z e=>dU e) c1.w λQ E h=>KN (h _ s1.toks (dg rfl c1.e rfl))
theorem Uj (I:Ih au w K sf)(t:Expr)(b o:List bO)(pos:aZ)(cx:Ctx w.params K A fs L ah U ρ σ s.heap) :
 aL (model au w) A w.params K fs L [ah.locals] (aI fs) ρ σ s (cX ah U) (eV P sf U (.If t b o pos)) (exec (.If t b o pos) ah) (RS ah U):=by
 show aL _ _ _ _ _ _ _ _ _ _ _ _ (bd (sT sf U t) λc=>(match c with
  |true=>sF sf (.ss U b)
  |false=>sF sf (.ss U o))) (standAt pos>>=λZ=>isTrue t ah (eval t ah)>>=λc=>if c then execs b ah else execs o ah) _
 refine .at_ (wD cx (pM I t cx) λc d bQ bj s1 c1 bh rc=>?_);(refine ir (show c=d from rc) ?_);clear rc;induction c with
 |true=>exact BX I b c1
 |false=>exact BX I o c1
theorem Tn (I:Ih au w K sf)(x:Expr)(pos:aZ)(cx:Ctx w.params K A fs L ah U ρ σ s.heap) :
 aL (model au w) A w.params K fs L [ah.locals] (aI fs) ρ σ s (cX ah U) (eV P sf U (.Return (some x) pos)) (exec (.Return (some x) pos) ah) (RS ah U):=by
 show aL _ _ _ _ _ _ _ _ _ _ _ _ (bd (sE sf U x) λv=>rt (Fl.ret v,U)) (standAt pos>>=λZ=>eval x ah>>=λv=>pure (Flow.ret v)) _;exact .at_ (wD cx (dR I x cx) λa y bQ bj s1 c1 bh ra=>.pure c1.w ⟨(aP _ rfl ra),c1.e,rfl⟩)
theorem Q6 (I:Ih au w K sf)(t:Expr)(b:List bO)(pos:aZ)(cx:Ctx w.params K A fs L ah U ρ σ s.heap) :
 aL (model au w) A w.params K fs L [ah.locals] (aI fs) ρ σ s (cX ah U) (eV P sf U (.While t b [] pos)) (exec (.While t b [] pos) ah) (RS ah U):=by
 show aL _ _ _ _ _ _ _ _ _ _ _ _ (sF sf (.wh U t b)) _ _;refine DW (λr aj e Q E hq=>wpAny_While (I.wh t b cx r aj e _ λbQ s1 w1 bh g1 g2=>⟨(hq bQ s1 w1 bh g1 g2).1,λhr e he hx=>?_⟩)) λZ Z Z Z Z Z h1 h2 h3=>(dg h1 h2 h3);exact KY cx w1 bh he hx λh' w' bD fl hx=>(hq bQ {s1 with heap:=h'} w' bD g1 g2).2 hr e fl hx
theorem S5 (I:Ih au w K sf)(O:Ok au w K P Γ)(t x:Expr)(b:List bO)(pos:aZ)(cx:Ctx w.params K A fs L ah U ρ σ s.heap) :
 aL (model au w) A w.params K fs L [ah.locals] (aI fs) ρ σ s (cX ah U) (eV P sf U (.For t x b [] pos)) (exec (.For t x b [] pos) ah) (RS ah U):=by
 obtain e1: eV P sf U (.For t x b [] pos)=(match gv x with
  |true=>no
  |false=>bd (sE sf U x) λv=>bd (j7 v) λit=>sF sf (.fo U t it b)):=rfl
 rw[e1];induction hs:gv x with
 |true=>exact .no
 |false =>
  rw[exec_For];refine .at_ (wD cx (dR I x cx) λa y bQ bj s1 c1 bh ra=>?_);rw[IG hs,pure_bind];refine .at_ ?_;intro r aj e Q E hq;focus(refine aG (dM e) (kA ?_) (cK ?_);clear e hq;rintro e2 rfl;rotate_left;rintro it aY e2 e3;rotate_left)
  ·refine aO (yZ (au:=au) (A:=A) (E:=E) (Q:=λZ Z=>True) c1.w ra e2) ?_;rintro _ h _;exact nC Zq.Rs.ctorIdx h rfl
  refine aF (fy ?_);refine cy (yZ (au:=au) (A:=A) (E:=E) (Q:=λit jL=>wpAny (model au w) A (runOwn (.forLoop t it b [] ah) ah) Q E jL) c1.w ra e2) ?_;rintro dQ h1 h2 h3;(revert h3;refine dI h1 ?_;intro h3);clear e2 ra bh;subst h2;refine h3 λh' keep gn hit=>wpAny_runOwn ?_;obtain w':= c1.w.grow keep;obtain bD:bL [] (aI fs) bQ aY.length s1.heap bQ aY.length h':=.grow keep;obtain c2:= c1.step w' bD;obtain dv:= c1.w.sz c1.rm.ne;obtain ap: Apart fs bQ aY.length s1.heap.objs.size:=⟨dv,λi hi=>iE (c1.w.lt hi),λm=>qe _ (c1.w.fr.lt m)⟩;obtain fin: wK (model au w) A w.params K fs L [ah.locals] (aI fs) bQ aY.length s1.heap aY {s1 with heap:=h'} (cX ah U) (sf (.fo U t it b)) (.forLoop t (.ref s1.heap.objs.size) b [] ah) (RF ah U) :=
   I.fo (s:={s1 with heap:=h'}) t it b _ bQ aY.length s1.heap c2 hit ap bD.wide gn
  have hs:∀r1 eX,sf (.fo U t it b) aY=some (r1,eX)->eX=aj->((r1=.exc/\r=.exc)\/∃fl cg,r1=.ok (.f fl cg)/\r=.ok (fl,cg)) ->
   codeAny (model au w) (A.mark none) (.forLoop t (.ref s1.heap.objs.size) b [] ah) (λr s'=>match r with|.ok f=>Q f s'|.error e=>cameBackBy (model au w) A ah E e s') {s1 with heap:=h'}:=λr1 eX uG mL hc=>by
   clear e e3;subst mL;refine fin r1 eX uG _ λbY s2 w2 bF g1 g2=>⟨λa ha f hf=>?_,λhx ev he hy=>?_⟩
   ·refine aG hc (kA ?_) (cK ?_)
    ·clear hc;rintro z _;clear uG;subst z;exact nC Zq.Rs.ctorIdx ha rfl
    ·clear hc;rintro fl cg rfl rfl;cases ha;refine dT hf ?_;rintro _ _ h0 z1 z2 z3;cases h0;exact(hq bY s2 w2 bF g1 g2).1 _ rfl _ (dg z1 z2 z3)
   ·refine aG hc (kA ?_) (cK ?_)
    ·clear hc;rintro _ rfl;exact KY cx w2 bF he hy λh' w' bD fl hx=>(hq bY {s2 with heap:=h'} w' bD g1 g2).2 rfl ev fl hx
    ·clear hc;rintro _ _ z _;clear uG;subst z;exact nC Zq.Rs.ctorIdx hx rfl
  refine aG (sh e3) (kA ?_) (cK ?_)
  ·rintro rfl e4;exact hs _ _ e4 rfl (.inl ⟨rfl,rfl⟩)
  ·rintro fl cg rfl e4;exact hs _ _ e4 rfl (.inr (cF _ _ rfl rfl))
end
noncomputable def pd:List ak->List V->List (ak×V)->List (ak×V)
 |[],_,l=>l
 |n::ns,vs,l=>match vs with
  |[]=>l
  |v::vs=>pd ns vs (pu n v l)
theorem Bz:∀{ns} {l} {U},(∀n∈ns,bI n U.sc≠some .cell)->fC U ns l σ=some (r,aj) ->
 r=.ok {U with loc:=pd ns l U.loc}/\aj=σ/\(∀n∈ns,bI n U.sc=some .local/\U.ro.any (bg n)=false)/\ns.length=l.length
 |[],[],U,_,e=>by(refine dX e ?_);exact(pq rfl rfl (λZ m=>(nomatch m)) rfl)
 |[],_::_,U,_,e=>by exact nS e
 |_::_,[],U,_,e=>by exact nS e
 |n::ns,v::l,U,hk,e=>by
  obtain e:bd (gw U n v) (λU=>fC U ns l) σ=some (r,aj):=e;obtain hn:=hk n (.head _);obtain hs: gw U n v σ=none\/(gw U n v σ=some (.ok {U with loc:=pu n v U.loc},σ)/\bI n U.sc=some .local/\U.ro.any (bg n)=false):=by
   unfold gw;induction hq:bI n U.sc with
   |none=>exact .inl rfl
   |some k =>
    induction k with
    |«local» =>
     dsimp only;induction hr:U.ro.any (bg n) with
     |true=>exact .inl rfl
     |false=>exact .inr (dg rfl rfl rfl)
    |cell=>exact absurd hq hn
    |_=>exact .inl rfl
  refine aG hs ?_ (tx ?_)
  ·rintro hs;unfold bd at e;rw[hs]at e;exact nS e
  ·clear hs;rintro hs h1 h2;unfold bd at e;rw[hs]at e;obtain e:fC {U with loc:=pu n v U.loc} ns l σ=some (r,aj):=e;refine nA (Bz (U:={U with loc:=pu n v U.loc}) (λm hm=>hk m (.tail _ hm)) e) ?_;rintro r1 r2 r3 r4;exact(pq r1 r2 (λm hm=>by
    refine aG (cU.mp hm) ?_ ?_
    ·rintro rfl;exact⟨h1,h2⟩
    ·rintro hm;exact r3 m hm) (congrArg (·+1) r4))
theorem HL:∀{ns} {l} {U},(∀n∈ns,bI n U.sc=some .local/\U.ro.any (bg n)=false)->ns.length=l.length->fC U ns l σ=some (.ok {U with loc:=pd ns l U.loc},σ)
 |[],[],U,_,_=>rfl
 |[],_::_,U,_,e=>by cases e
 |_::_,[],U,_,e=>by cases e
 |n::ns,v::l,U,hk,e=>by
  refine oA (hk n (.head _)) ?_;rintro h1 h2;obtain hs: gw U n v σ=some (.ok {U with loc:=pu n v U.loc},σ):=by
   unfold gw;rw[h1];skip;rw[h2];rfl
  show bd (gw U n v) (λU=>fC U ns l) σ=_;unfold bd;rw[hs];exact HL (U:={U with loc:=pu n v U.loc}) (λm hm=>hk m (.tail _ hm)) (yk e)
theorem Cj (x:ak):∀{ns} {l} {m},ns.Nodup->ns.length=l.length->lk x (pd ns l m)=((ns.zip l).lookup x).or (lk x m)
 |[],[],m,_,_=>rfl
 |[],_::_,m,_,e=>by cases e
 |_::_,[],m,_,e=>by cases e
 |n::ns,v::l,m,nd,e=>by
  refine oA (jS.mp nd) ?_;rintro n1 n2;rw[Cj x n2 (yk e),wq,rC,gh];by_cases h:x=n
  ·clear e nd;subst h;obtain af: (ns.zip l).lookup x=none:=by
    induction q:(ns.zip l).lookup x with
    |none=>rfl
    |some z=>exact absurd (HZ (mem_of_lookup q)).1 n1
   rw[af];simp
  ·obtain af:=beq_eq_false_iff_ne.mpr h;rw[af,if_neg h]
theorem Jq {U:Fm}:∀{ns} {l} {m},(∀n∈ns,U.ro.any (bg n)=false)->cW {U with loc:=pd ns l m}=cW {U with loc:=m}
 |[],[],m,_=>rfl
 |[],_::_,m,_=>rfl
 |_::_,[],m,_=>rfl
 |n::ns,v::l,m,h=>by
  show cW {U with loc:=pd ns l (pu n v m)}=_;rw[Jq λk hk=>h k (.tail _ hk)];exact KR (U:={U with loc:=m}) (h n (.head _))
theorem JC {α β:Type}:∀{a:List α} {b:List β},a.length=b.length->a.reverse.zip b.reverse=(a.zip b).reverse
 |[],[],_=>rfl
 |[],_::_,h=>by cases h
 |_::_,[],h=>by cases h
 |x::a,y::b,h=>by
  obtain h:=yk h;rw[tE,tE,rC,tE,<- JC h,List.zip_append (by simpa using h)];rfl
theorem QI (nd:ns.Nodup)(h:ns.length=l.length)(x:ak)(m:List (ak×V)):lk x (pd ns.reverse l.reverse m)=lk x (pd ns l m):=by
 rw[Cj x (List.pairwise_reverse.mpr (nd.imp λh z=>h z.symm)) (by simpa using h),Cj x nd h,JC h,vF];rw[Bw (by lia)];exact nd
theorem filter_le {α:Type}{p:α->Bool}{l:List α}:(l.filter p).length<=l.length:=List.length_filter_le ..
theorem JZ {α:Type}[BEq α][LawfulBEq α]:∀(n:Nat) (l:List α),l.length<=n->l.eraseDups.length<=l.length
 |_,[],_=>by simp
 | 0,_::_,h=>by simp at h
 |n+1,a::l,h=>by
  rw[List.eraseDups_cons];obtain h1:=filter_le (p:=λb=>!b==a) (l:=l);obtain af:= JZ n (l.filter λb=>!b==a) (by simp at h;lia);simp only[dJ];lia
theorem HK {α:Type}[BEq α][LawfulBEq α]:∀(n:Nat) (l:List α),l.length<=n->l.eraseDups.length=l.length->l.Nodup
 |_,[],_,_=>by simp
 | 0,_::_,h,_=>by simp at h
 |n+1,a::l,h,e=>by
  rw[List.eraseDups_cons]at e;obtain h1:=filter_le (p:=λb=>!b==a) (l:=l);obtain h2:= JZ n (l.filter λb=>!b==a) (by simp at h;lia);simp only[dJ]at e;have h3:(l.filter λb=>!b==a).length=l.length:=by lia
  obtain h4: l.filter (λb=>!b==a)=l:=by
   rw[List.filter_eq_self];exact OT.mp h3
  rw[h4]at e;refine jS.mpr ⟨λm=>?_,HK n l (by simp at h;lia) (by lia)⟩;obtain af:= (OT.mp h3) a m;simp at af
section
variable {au:cB}{w:bw}{K:bz}{P:PE}{Γ:ax->Option (Nat->List V->Mo V)}{sf:Jb->Mo An}{A:bZ}{fs:List a9}{L:ax}{ah:a9}{U:Fm}{ρ:Nat->ax}{σ:Sg}{s:aN}
theorem So (h:jX t=false):assignEach [t] ah=[(false,assign t ah)]:=by induction t using cR<;>first|rfl|exact tF h
theorem Ca (h:∀ts k p vs k' p',¬(t=.Tuple ts k p/\x=.Tuple vs k' p'))(hl:∀ts p,t≠.List ts p):swappedStores [t] x ah=pure none:=by
 induction t using cR with
 |List=>exact absurd rfl (hl _ _)
 |Tuple=>induction x using cR with
  |Tuple=>exact absurd ⟨rfl,rfl⟩ (h _ _ _ _ _ _)
  |_=>rfl
 |_=>rfl
theorem zv {α:Type}[Decidable c]{x y:α}{P:α->Prop}(h1:P x)(h2:¬c->P y):P (if c then x else y):=by
 by_cases h:c
 ·rw[if_pos h];exact h1
 ·rw[if_neg h];exact h2 h
theorem Lh {a b c d:Nat}(h:¬(a != b||c != d)=true):a=b/\c=d:=by simpa using h
noncomputable def w8 (ah:a9)(ts:List Expr)(z:Sem (Option (List ak))):Prop:=z=pure none\/∃names line f,z=pure (some names)/\names.Nodup/\names.length=ts.length/\names=ts.filterMap f /\
 ∀n p,f (.Name n p)=if ah.kindOf n==some .local&&p.line==(line:Nat) then some n else none
theorem Sf (h:vs.all (constantsAlone 8)=false):w8 ah ts (swappedStores [.Tuple ts k p] (.Tuple vs k' p') ah):=by
 refine zv (P:=w8 ah ts) (.inl rfl) λZ=>zv (P:=w8 ah ts) (.inl rfl) λZ=>zv (P:=w8 ah ts) (.inl rfl) λhc=>zv (P:=w8 ah ts) (.inl rfl) λZ=>?_;rw[h,if_neg (by decide)];exact .inr ⟨_,_,_,rfl,HK _ _ (bc _) (Lh hc).2,(Lh hc).1,rfl,λZ Z=>rfl⟩
theorem Bk (hf:∀n p,f (.Name n p)=if ah.kindOf n==some .local&&p.line==line then some n else none):∀{ts} {ns},namesOf ts=some ns ->
 (ts.filterMap f).length=ts.length->ts.filterMap f=ns/\∀n∈ns,ah.kindOf n=some .local
 |[],_,h,_=>by(refine aT h ?_);exact⟨rfl,λZ m=>nomatch m⟩
 |x::r,_,h,hl=>by
  refine dG (Br h) ?_;clear h;rintro n p ms rfl rfl h1;have hn:=hf n p;by_cases hk:(ah.kindOf n==some .local&&p.line==line)=true
  ·rw[if_pos hk]at hn;rw[List.filterMap_cons_some hn]at hl ⊢;refine oA (Bk hf h1 (yk hl)) ?_;rintro i1 i2;exact⟨congrArg (n::·) i1,List.forall_mem_cons.mpr ⟨eq_of_beq (jP.mp hk).1,i2⟩⟩
  ·rw[if_neg hk]at hn;rw[List.filterMap_cons_none hn]at hl;exact absurd (hl▸PI f r) (Nat.not_succ_le_self _)
theorem aW.rev:∀{l} {xs},aW h ρ n l xs->aW h ρ n l.reverse xs.reverse
 |[],_,q=>by cases q.i0;exact .nil
 |v::l,_,q=>by
  refine cj q.i1 ?_;clear q;rintro y r rfl q1 q2;rw[tE,tE];exact q2.rev.app (.one q1)
theorem PW (I:Ih au w K sf)(O:Ok au w K P Γ)(t x:Expr)(pos:aZ)(cx:Ctx w.params K A fs L ah U ρ σ s.heap) :
 aL (model au w) A w.params K fs L [ah.locals] (aI fs) ρ σ s (cX ah U) (eV P sf U (.Assign [t] x pos)) (exec (.Assign [t] x pos) ah) (RS ah U):=by
 have e1:eV P sf U (.Assign [t] x pos)=(match iN x||oX t x with
  |true=>no
  |false=>bd (sE sf U x) λv=>bd (fg P sf U v t) λU=>rt (.next,U)):=rfl
 have e2:exec (.Assign [t] x pos) ah=(standAt pos>>=λZ=>swapsWith x (some t) pos.line ah>>=λb=>if b=true then (do
  evalThenUse x ah λv=>assignAll v ((assignEach [t] ah).map (·.2))
  pure .next) else (eval x ah>>=λv=>swappedStores [t] x ah>>=λsw=>assignStores ah v sw ((assignEach [t] ah).map (·.2)))):=rfl
 rw[e1,e2];induction hc:iN x||oX t x with
 |true=>exact .no
 |false =>
  refine oA (Bool.or_eq_false_iff.mp hc) ?_;rintro Az pQ;refine .at_ ?_;rw[B3 Az,pure_bind,if_neg (by decide)];refine wD cx (dR I x cx) λv y bQ bj s1 c1 bh ra=>?_;induction xw:jX t with
  |true =>
   obtain af: fg P sf U v t=no:=by clear e1 e2 hc pQ;induction t using cR<;>first|rfl|exact fT xw
   rw[af];exact .no
  |false =>
   rw[So xw];have plain:aL (model au w) A w.params K fs L [ah.locals] (aI fs) bQ bj s1 (cX ah U) (bd (fg P sf U v t) λU=>rt (Fl.next,U)) (assignStores ah y none [assign t ah]) (RS ah U):=by
    show aL _ _ _ _ _ _ _ _ _ _ _ _ _ (assign t ah y>>=λZ=>pure Flow.next) _;exact(ze I O t c1 ra).bind λcg u bY aY s2 w2 bF hr=>.pure w2 (dg rfl hr.1 hr.2)
   by_cases ht:∃ts k p,t=.Tuple ts k p
   ·refine wY ht ?_;clear ht;rintro ts k p rfl;by_cases hx:∃vs k' p',x=.Tuple vs k' p'
    ·refine wY hx ?_;clear hx;rintro vs k' p' rfl;refine aG (Sf (ah:=ah) (ts:=ts) (k:=k) (k':=k') (p:=p) (p':=p') pQ) ?_ (RL ?_)
     ·intro h;rw[h,pure_bind];exact plain
     ·rintro names line f h h1 h2 h3 hf;rw[h,pure_bind];show aL _ _ _ _ _ _ _ _ _ _ _ _ _ (rule "assign.swapped-stores">>=λZ=>unpackItems y names.length none>>=λitems=>assignInOrder (names.reverse.map λn=>bindName ah n) items.reverse>>=λZ=>pure Flow.next) _;intro r aj e Q E hq;refine aF (wpAny_rule ?_);refine aG (dM e) (kA ?_) (cK ?_)
      ·rintro e3 rfl;refine dT (CV e3) ?_;rintro ns l i1 i2 i3 i4;refine oA (Bk hf i1 (by rw[<- h3];exact h2)) ?_;rintro j1 j2;obtain hk: ∀n∈ns,bI n U.sc≠some .cell:=λn hn z=>by
        obtain af:= c1.e.kk n z;rw[j2 n hn]at af;exact nC oH (jR af) rfl
       obtain af:= (Bz hk i4).1;exact nC Zq.Rs.ctorIdx af rfl
      ·rintro cg aY e3 e4;refine dT (CV e3) ?_;rintro ns l i1 i2 i3 i4;refine oA (Bk hf i1 (by rw[<- h3];exact h2)) ?_;rintro j1 j2;obtain hk: ∀n∈ns,bI n U.sc≠some .cell:=λn hn z=>by
        obtain af:= c1.e.kk n z;rw[j2 n hn]at af;exact nC oH (jR af) rfl
       refine nA (Bz hk i4) ?_;rintro NH YI s3 s4;(revert e3 e4 i4;refine AV NH ?_;clear NH cg;intro e3 e4 i4);subst YI;(clear bh plain e e3 i4;revert c1 ra hq i2;refine i7 e4 ?_;clear e4 r aY;intro c1 ra hq i2);obtain hn:=h3.trans j1;clear hk i1 j1 j2 s4;subst hn;refine aF (KQ c1 ra i2 i3 λh' vs keep rk=>?_);obtain w':= c1.w.grow keep;have st:bL [] (aI fs) bQ aj.length s1.heap bQ aj.length h':=.grow keep;obtain c2:= c1.step w' st;have Xk:=HL (σ:=aj) (ns:=names.reverse) (l:=l.reverse) (U:=U) (λn hn=>s3 n (List.mem_reverse.mp hn)) (by simpa using i3);refine aF (B5 (s:={s1 with heap:=h'}) (Hr (ns:=names.reverse)) c2 (aW.rev (rk.kp (c1.kp st))) _ _ Xk _ E λbY s2 w2 bF g1 g2=>⟨λuJ ha u hr=>?_,λz=>(nC Zq.Rs.ctorIdx z rfl)⟩);(revert hr;refine dI ha ?_;intro hr);refine bq ((hq bY s2 w2 (st.wide.trans bF) g1 g2).1 _ rfl _ (dg rfl ?_ ?_))
       ·refine oA hr ?_;rintro he _;refine aO he.ns ?_;rintro m q1 q2;refine⟨he.k,he.g,he.b,(aP m q1 (λz v hz=>q2 z v ?_)),he.lo,he.ap,he.kl,he.kg,he.kc,he.kk,he.nm⟩;rw[show lk z (pd names.reverse l.reverse U.loc)=_ from QI h1 i3 z U.loc];exact hz
       ·exact Jq λn hn=>(s3 n hn).2
    ·rw[Ca (λNt k2 p2 vs k' p' z=>hx (zQ vs k' p' z.2)) (λts p z=>by exact nC Hl z rfl),pure_bind];exact plain
   ·by_cases hl:∃ts p,t=.List ts p
    ·refine fE hl ?_;clear hl;clear e1 e2 hc pQ xw ht plain;rintro ts p rfl;exact .no
    ·rw[Ca (λNt k2 p2 vs k' p' z=>ht (zQ Nt k2 p2 z.1)) (λts p z=>hl (d7 ts p z)),pure_bind];exact plain
end
set_option tactic.hygienic true in
theorem Kv (e:nx m σ=some (r,aj)):∃a,r=.ok a/\m σ=some (.ok a,aj):=by
 unfold nx at e;induction h:m σ with
 |none=>rw[h]at e;exact nS e
 |some p =>
  rw[h]at e;obtain⟨r1,bj⟩:=p;induction r1 with
  |exc=>exact nS e
  |ok a=>clear h;refine i7 e ?_;exact(aP _ rfl rfl)
theorem LF (e:m σ=some (.ok a,aj)):nx m σ=some (.ok a,aj):=by unfold nx;rw[e]
section
variable {au:cB}{w:bw}{K:bz}{P:PE}{Γ:ax->Option (Nat->List V->Mo V)}{sf:Jb->Mo An}{A:bZ}{fs:List a9}{L:ax}{ah:a9}{U:Fm}{ρ:Nat->ax}{σ:Sg}{s:aN}{cl:List (ak×ax)}{C:ax}
theorem Kq:∀(ifs:List Expr),(forIn ifs true λ(c:Expr) (r:Bool)=>(if r=true then (do let ok <- isTrue c ah (eval c ah);pure (rF ok)) else pure (rF r):Sem (ForInStep Bool)))=allTrue .And ifs ah
 |[]=>rfl
 |x::r=>by
  rw[vp,arm_allTrue_cons];rw[if_pos rfl,bind_assoc]
  congr 1
  funext ok
  rw[pure_bind];induction ok with
  |true=>exact Kq r
  |false =>
   show forIn r false _=pure false;induction r with
   |nil=>rfl
   |cons y r ih =>
    rw[vp,if_neg (by decide),pure_bind];exact ih
theorem Uy (I:Ih au w K sf)(O:Ok au w K P Γ)(elt t iter:Expr)(ifs:List Expr)(sc:fh)(pos:aZ)(it:It)(aA:Nat)(i:ax)(cP:Nat->ax)(cQ:Nat)(eM:bf)(cx:Ctx w.params K A fs L ah U ρ σ s.heap)(hi:iW s.heap ρ σ.length i it)
 (ap:Apart fs ρ σ.length i) (o8:bL [ah.locals] (aI fs) cP cQ eM ρ σ.length s.heap) (gi:eM.get? i=none) (sM:aA<σ.length) :
 wK (model au w) A w.params K fs L [ah.locals] (aI fs) cP cQ eM σ s (λZ Z Z=>True) (nx (step P Γ sf (.cp U elt t ifs it aA))) (.compLoop (.ListComp elt [⟨t,iter,ifs,0⟩] sc pos) 0 (.ref i) (.ref (ρ aA)) ah)
  (λh aJ n a f=>a=.v (.ref aA)/\f=.next/\(∃m,h.Ns ah.locals m)/\(∀i,i<n->aJ i≠ah.locals)/\aA<n/\aJ aA=ρ aA):=by
 intro r aj e R hq;refine aO (Kv e) ?_;rintro a rfl en;clear e;have e:bd (gt (fB it)) (λo=>(match o with
  |none=>rt (.v (.ref aA))
  |some (v,dQ)=>bd (fg P sf U v t) λU=>bd (sB sf (.ts U .And ifs)) λc=>(match c with
   |true=>bd (sE sf U elt) λr=>bd (cw .append [.ref aA,r]) λZ=>sf (.cp U elt t ifs dQ aA)
   |false=>sf (.cp U elt t ifs dQ aA)))) σ=some (.ok a,aj):=en
 clear en;refine BQ ?_;show wpAny _ A ((compTurn (.ListComp elt [⟨t,iter,ifs,0⟩] sc pos) 0 (.ref i) (.ref (ρ aA)) ah).onRaise (λx=>do noteFrame x ah;theTreesLotGoes x)) _ _ s;refine wpAny_noted ?_;rw[compTurn_list];focus(refine aG (dM e) (kA ?_) (cK ?_);rintro e1 h;rotate_left;rintro o bj e1 e2;rotate_left)
 ·exact nC Zq.Rs.ctorIdx h rfl
 refine cy (lz e1) ?_;rintro o' hn h2 rfl;(revert hn;refine dI h2 ?_;clear h2 o';intro hn);clear e;refine aF (jl (aF (Kk cx.rm.hn cx.w hi hn (λho h' he=>?_) λv dQ ho h' y tk sb j6 hy=>?_)))
 ·subst ho;(clear e1 hn;revert hq cx hi ap o8 sM;refine UX e2 ?_;intro hq cx hi ap o8 sM);obtain c1:=cx.but hi ap he;refine bq ?_;refine aO c1.e.ns ?_;rintro m hm _;exact(hq ρ {s with heap:=h'} c1.w (o8.but he gi) rfl rfl).1 _ rfl _ (K5 rfl rfl ⟨m,hm⟩ c1.e.ap sM rfl)
 ·clear e1 hn;subst ho;obtain c1:=cx.but hi ap sb.extBut;have bh:=o8.but sb.extBut gi;refine mh j6.obj ?_;rintro oI T vI i1 i2 i3 i4;refine aF (IM (s:={s with heap:=h',toks:=tk}) i1 i2 i3 ?_);refine aF ?_;obtain e2: bd (fg P sf U v t) (λU=>bd (sB sf (.ts U .And ifs)) λc=>(match c with
   |true=>bd (sE sf U elt) λr=>bd (cw .append [.ref aA,r]) λZ=>sf (.cp U elt t ifs dQ aA)
   |false=>sf (.cp U elt t ifs dQ aA))) bj=some (.ok a,aj):=e2
  focus(refine aG (dM e2) (kA ?_) (cK ?_);rintro _ h;rotate_left;rintro gF aY e3 e4;rotate_left)
  ·exact nC Zq.Rs.ctorIdx h rfl
  refine ze (s:={s with heap:=h',toks:=tk}) I O t c1 hy _ _ e3 _ _ λbY s2 w2 bF g3 g4=>⟨λa h u hr=>?_,λh=>(nC Zq.Rs.ctorIdx h rfl)⟩;cases h;have c2:=c1.to w2 hr;obtain kG:= bh.trans bF;focus(refine aG (dM e4) (kA ?_) (cK ?_);rintro _ h;rotate_left;rintro c eX e5 e6;rotate_left)
  ·exact nC Zq.Rs.ctorIdx h rfl
  show wpAny _ A ((forIn ifs true λ(c:Expr) (r:Bool)=>(if r=true then (do let ok <- isTrue c ah (eval c ah);pure (rF ok)) else pure (rF r):Sem (ForInStep Bool)))>>=_) _ _ s2;rw[Kq];refine aF ?_;refine Lj (I.ts .And ifs c2) _ _ e5 _ _ λjy s3 w3 gI g5 g6=>⟨λc' h d hd=>?_,λh=>(nC Zq.Rs.ctorIdx h rfl)⟩;(revert hd;refine dI h ?_;clear h c';intro hd);(refine ir (show c=d from hd) ?_);obtain c3:=c2.step w3 gI;obtain wJ:=gI.wide;obtain qF:= kG.trans wJ;have next:∀{uI:Nat->ax} {dz:Sg} {s4:aN},Ctx w.params K A fs L ah gF uI dz s4.heap->bL [ah.locals] (aI fs) ρ bj.length h' uI dz.length s4.heap->s4.gens=s.gens->s4.os=s.os->sf (.cp gF elt t ifs dQ aA) dz=some (.ok a,aj) ->
   codeAny (model au w) A (.compLoop (.ListComp elt [⟨t,iter,ifs,0⟩] sc pos) 0 (.ref i) (.ref (ρ aA)) ah) R s4:=λ{uI dz s4} c4 lS g7 g8 e7=>by
   obtain iL: i≠ah.locals:=λz=>by
    refine aO c1.e.ns ?_;rintro m ⟨o',es,ep,ho,hd,_⟩ _;rw[<- z,i1]at ho;(revert hd;refine aT ho ?_;intro hd);rw[i4]at hd;exact nC jB hd rfl
   obtain iK: ∀o,h'.get? i=some o->s4.heap.get? i=some o:=λo e=>lS.keep i o e (λj hj z=>ap.own j hj z.symm) (λm=>iL (iD.mp m)) ap.fr λz=>absurd (z▸ap.hi) (by decide);obtain kp:= c1.uE lS;obtain hx:=lS.ext aA sM;rw[<- hx];refine I.cp elt t iter ifs sc pos dQ aA i cP cQ eM c4 (j6.kp kp iK) (Apart.up ap lS i1) (bh.trans lS) gi (fK sM lS.le) _ _ (LF e7) R λNv s5 w5 Ac g9 uF=>?_;refine oA (hq Nv s5 w5 Ac (g9.trans g7) (uF.trans g8)) ?_;rintro q1 q2;refine⟨λa ha f hf=>q1 a ha f ?_,λhx=>(nC Zq.Rs.ctorIdx hx rfl)⟩;refine zh hf ?_;rintro z1 z2 z3 z4 z5 z6;exact(K5 z1 z2 z3 z4 z5 (z6.trans hx))
  clear e5 hd;induction c with
  |false =>
   exact bq ⟨rfl,next c3 (bF.trans wJ) (g5.trans g3) (g6.trans g4) e6⟩
  |true =>
   obtain e6:=e6;focus(refine aG (dM e6) (kA ?_) (cK ?_);rintro _ h;rotate_left;rintro v2 dz e7 e8;rotate_left)
   ·exact nC Zq.Rs.ctorIdx h rfl
   focus(refine aG (dM e8) (kA ?_) (cK ?_);rintro _ h;rotate_left;rintro u2 jA e9 ZX;rotate_left)
   ·exact nC Zq.Rs.ctorIdx h rfl
   refine aF (aF ?_);refine dR I elt c3 _ _ e7 _ _ λuI s4 w4 lS g7 g8=>⟨λv' h y2 Fz=>?_,λh=>(nC Zq.Rs.ctorIdx h rfl)⟩;(revert Fz;refine dI h ?_;intro Fz);have c4:=c3.step w4 lS;obtain W4:=lS.wide;have Gm:=(bF.trans wJ).trans W4;obtain hx:=Gm.ext aA sM;refine aF ?_;rw[<- hx];refine I8 (L:=L) (X:=[]) (EX:=cD) (b:=.append) (av:=[.ref aA,v2]) c4.rm rfl w4 ((ey _ _ rfl (⟨fK sM Gm.le,rfl⟩) (aW.one Fz))) _ _ e9 _ _ λNv s5 w5 Ac g9 uF=>⟨λv' h y3 hy3=>?_,λh=>(nC Zq.Rs.ctorIdx h rfl)⟩;obtain c5:= c4.step w5 Ac;obtain XR:=Ac.wide;refine bq (bq ⟨rfl,?_⟩);rw[hx];exact next c5 (Gm.trans XR) (g9.trans (g7.trans (g5.trans g3))) (uF.trans (g8.trans (g6.trans g4))) ZX
theorem BH:∀(l:List (ak×lu)) (cs:List (ak×ax)),(∀p∈l,p.2=.free->∃a,ah.cells.lookup p.1=some a) ->
 ∃cl,(forIn l cs λ(p:ak×lu) (cs:List (ak×ax))=>(if (p.2==.free)=true then (do let a <- cellOf ah p.1;pure (rF ((p.1,a)::cs))) else pure (rF cs):Sem (ForInStep (List (ak×ax)))))=pure cl /\
  (∀n a,(n,a)∈cl->(n,a)∈cs\/ah.cells.lookup n=some a)/\(∀p∈cs,p∈cl)/\(∀p∈l,p.2=.free->∃a,(p.1,a)∈cl)
 |[],cs,_=>(su cs rfl (λn a h=>.inl h) (λp h=>h) (λp h=>nomatch h))
 |(n,k)::r,cs,h=>by
  rw[vp];by_cases hk:k=.free
  ·subst hk;refine oE (h (n,.free) (.head _) rfl) ?_;rintro a ha;obtain ha:=ha;refine qD (BH r ((n,a)::cs) λp hp=>h p (.tail _ hp)) ?_;rintro cl h1 h2 h3 h4;refine(su cl ?_ (λm b hm=>?_) (λp hp=>h3 p (.tail _ hp)) (λp hp hf=>?_))
   ·rw[if_pos (by rfl)];obtain af: cellOf ah n=pure a:=by unfold cellOf;rw[ha]
    skip;rw[af,pure_bind,pure_bind];exact h1
   ·refine aG (h2 m b hm) ?_ ?_
    ·rintro q;refine aG (cU.mp q) ?_ ?_
     ·rintro q;cases q;exact .inr ha
     ·rintro q;exact .inl q
    ·rintro q;exact .inr q
   ·refine aG (cU.mp hp) ?_ ?_
    ·clear hf;rintro rfl;exact⟨a,h3 _ (.head _)⟩
    ·rintro hp;exact h4 p hp hf
  ·refine qD (BH r cs λp hp=>h p (.tail _ hp)) ?_;rintro cl h1 h2 h3 h4;refine(su cl ?_ h2 h3 (λp hp hf=>?_))
   ·rw[if_neg (by simpa using hk),pure_bind];exact h1
   ·refine aG (cU.mp hp) ?_ ?_
    ·rintro rfl;exact absurd hf hk
    ·rintro hp;exact h4 p hp hf
theorem OZ (sc:fh):closureFor sc ah=(forIn sc.names [] λ(p:ak×lu) (cs:List (ak×ax))=>(if (p.2==.free)=true then (do let a <- cellOf ah p.1;pure (rF ((p.1,a)::cs))) else pure (rF cs):Sem (ForInStep (List (ak×ax)))))>>=λcs=>pure cs:=rfl
theorem BL (h:bI x sc=some k)(hk:k≠.free):(compEnvC sc cl C ah).kindOf x=some k:=by
 unfold bI at h;rw[iY]at h;show List.lookup x (relabel sc ah).names=_;unfold relabel;dsimp only;generalize sc.names=l at *;induction l with
 |nil=>exact nS h
 |cons p r ih =>
  obtain⟨n,k'⟩:=p;rw[gh]at h;rw[nQ];by_cases hx:x=n
  ·subst hx;rw[beq_self_eq_true]at h;(refine dP h ?_);obtain af: (k==H0)=false:=by simpa using hk
   simp[af]
  ·obtain hb:=beq_eq_false_iff_ne.mpr hx;rw[hb]at h;skip;split<;>· rw[gh,hb];exact ih h
theorem ON (h:bI x sc=some .free)(hk:ah.scope.kind=.function)(hc:ah.kindOf x=some .cell):(compEnvC sc cl C ah).kindOf x=some .cell:=by
 unfold bI at h;rw[iY]at h;show List.lookup x (relabel sc ah).names=_;unfold relabel;dsimp only;generalize sc.names=l at *;induction l with
 |nil=>exact nS h
 |cons p r ih =>
  obtain⟨n,k'⟩:=p;rw[gh]at h;rw[nQ];by_cases hx:x=n
  ·subst hx;rw[beq_self_eq_true]at h;(refine dP h ?_);simp[hk,hc]
  ·obtain hb:=beq_eq_false_iff_ne.mpr hx;rw[hb]at h;skip;split<;>· rw[gh,hb];exact ih h
theorem Q0 (hi:iW s.heap ρ σ.length I it)(h:Q (.ref I) s):wpAny (model au w) A (pyIter (.ref I)) Q E s:=by
 induction it with
 |tup l=>refine oS hi ?_;clear hi;rintro a ys k i _ h2 _;exact wpAny_pyIter_tupleiter h2 h
 |cm a b=>exact wpAny_pyIter_rangeiter hi h
 |str l =>
  refine oS hi ?_;clear hi;rintro ty x t i ht h2 _;refine aG ht ?_ ?_
  ·clear ht;rintro rfl;exact wpAny_pyIter_striter_ascii h2 h
  ·clear ht;rintro rfl;exact wpAny_pyIter_striter_wide h2 h
 |list r k=>exact wpAny_pyIter_listiter hi.2 h
theorem wQ:∀{b},(!b)=true->b=false
 |false,_=>rfl
 |true,h=>h.symm
theorem PT (h:nZ U sc iter=true):gv iter=false/\sc.kind=.function/\∀p∈sc.names,(p.1==("__debug__":ak))=false/\(p.1==("__classdict__":ak))=false /\
 ((p.2=.local/\bI p.1 sc=some .local)\/p.2=.globalImplicit\/(p.2=.free/\bI p.1 U.sc=some .cell/\∃i,lk p.1 U.cz=some i)):=by
 refine oA (jP.mp h) ?_;rintro h h3;refine oA (jP.mp h) ?_;rintro h1 h2;refine(dg (wQ h1) ?_ (λp hp=>?_))
 ·revert h2;induction sc.kind with
  |function=>exact λZ=>rfl
  |_=>exact λh=>fT h
 ·refine oA (jP.mp (pZ.mp h3 p hp)) ?_;clear h1 h2 h3 hp;rintro h c;refine oA (jP.mp h) ?_;clear h;rintro a b;refine(dg (vJ ..▸wQ a) (vJ ..▸wQ b) ?_);clear a b;obtain⟨n,k⟩:=p;dsimp only at c ⊢;induction k with
  |«local» =>
   refine .inl ⟨rfl,?_⟩;dsimp only at c;induction hk:bI n sc with
   |none=>rw[hk]at c;exact fT c
   |some q =>
    rw[hk]at c;clear hk;induction q with
    |«local»=>rfl
    |_=>exact fT c
  |globalImplicit=>exact .inr (.inl rfl)
  |free =>
   refine .inr (.inr ⟨rfl,?_⟩);dsimp only at c;induction h1:bI n U.sc with
   |none=>rw[h1]at c;exact fT c
   |some q =>
    rw[h1]at c;clear h1;induction q with
    |cell =>
     induction h2:lk n U.cz with
     |none=>rw[h2]at c;exact fT c
     |some i=>exact⟨rfl,i,rfl⟩
    |_=>exact fT c
  |_=>exact fT c
theorem RE (I:Ih au w K sf)(OO:Ok au w K P Γ)(elt t iter:Expr)(ifs:List Expr)(sc:fh)(pos:aZ)(cx:Ctx w.params K A fs L ah U ρ σ s.heap) :
 aL (model au w) A w.params K fs L [] (aI fs) ρ σ s cD (fH P Γ sf U (.ListComp elt [⟨t,iter,ifs,0⟩] sc pos)) (eval (.ListComp elt [⟨t,iter,ifs,0⟩] sc pos) ah) RV:=by
 obtain e1: fH P Γ sf U (.ListComp elt [⟨t,iter,ifs,0⟩] sc pos)=(match nZ U sc iter with
  |true=>bd (sE sf U iter) λv=>bd (j7 v) λit=>bd (al (.list [])) λk =>
   nx (sV sf (.cp {sc:=sc,loc:=[],cz:=U.cz,d:=U.d,ro:=[]} elt t ifs it k))
  |false=>no):=rfl
 rw[e1];induction ZT:nZ U sc iter with
 |false=>exact .no
 |true =>
  refine fp (PT ZT) ?_;rintro k1 k2 k3;obtain WG: ∀p∈sc.names,p.2=.free->∃a,ah.cells.lookup p.1=some a:=λp hp hf=>by
   rcases(k3 p hp).2.2 with ⟨h,_⟩|h|⟨_,h1,i,h2⟩
   ·rw[hf]at h;exact nC oH h rfl
   ·rw[hf]at h;exact nC oH h rfl
   ·exact⟨_,(cx.e.kc p.1 i (.inl h1) h2).2.2⟩
  refine qD (BH (ah:=ah) sc.names [] WG) ?_;rintro cl c1 c2 c3 c4;obtain V9: closureFor sc ah=pure cl:=by rw[OZ,c1];rfl
  have wX:∀{x:ak} {k:lu},bI x sc=some k->(x,k)∈sc.names:=λ{x k} h=>by
   unfold bI at h;rw[iY]at h;exact mem_of_lookup h
  rw[eval_ListComp];intro r aj e Q E hq;refine wpAny_comprehension_free (g:=⟨t,iter,ifs,0⟩) (gs:=[]) rfl (IG k1) V9 k2 (λp hp hl=>?_) ?_
  ·focus(refine pS ((k3 p hp).2.2) (kA ?_) ?_ (kA ?_);rintro _ h;rotate_left;rintro h;rotate_left;rintro h _;rotate_left)
   ·unfold bI at h;rwa [iY]at h
   ·rw[hl]at h;exact nC oH h rfl
   ·rw[hl]at h;exact nC oH h rfl
  focus(refine aG (dM e) (kA ?_) (cK ?_);rintro e2 rfl;rotate_left;rintro v bj e2 e3;rotate_left)
  ·exact dR I iter cx _ _ e2 _ E λbQ s1 w1 bh g1 g2=>⟨λa h=>(nC Zq.Rs.ctorIdx h rfl),λZ=>(hq bQ s1 w1 bh g1 g2).2 rfl⟩
  refine dR I iter cx _ _ e2 _ E λbQ s1 w1 bh g1 g2=>⟨λv' h y hy=>?_,λh=>(nC Zq.Rs.ctorIdx h rfl)⟩;(revert hy;refine dI h ?_;intro hy);have OA:= cx.step w1 bh;focus(refine aG (dM e3) (kA ?_) (cK ?_);clear e e3 hq;rintro e4 rfl;rotate_left;rintro it aY e4 e5;rotate_left)
  ·refine aO (yZ (au:=au) (A:=A) (E:=E) (Q:=λZ Z=>True) w1 hy e4) ?_;rintro _ h _;exact nC Zq.Rs.ctorIdx h rfl
  refine cy (yZ (au:=au) (A:=A) (E:=E) (Q:=λit jL=>wpAny (model au w) A (newList []) (λaA mx =>
   wpAny (model au w) A (newFunctionEnv sc ah.globals cl [] ah.qual none .none (some ah)) (λMz Xu =>
    codeAny (model au w) A (.compStart (.ListComp elt [⟨t,iter,ifs,0⟩] sc pos) 0 it aA {Mz with scope:=relabel sc ah}) (compPost (model au w) A E none Q aA Mz.locals) Xu) E mx) E jL) w1 hy e4) ?_
  rintro dQ h1 h2 h3;(revert h3;refine dI h1 ?_;intro h3);clear e2 e3 e4 hy;subst h2;refine h3 λh' keep gn hit=>wpAny_newList (wpAny_newFunctionEnv (λp hp hc=>?_) (λp hp=>nomatch hp) (λdN el G2=>?_) k2) (fP _)
  ·focus(refine pS ((k3 p hp).2.2) (kA ?_) ?_ (kA ?_);rintro h _;rotate_left;rintro h;rotate_left;rintro h _;rotate_left)<;>· rw[hc]at h;exact nC oH h rfl
  dsimp only at el G2;generalize hH:h'.push {cls:=.type "list",data:=.seq ([]:List az).toArray}=H at el G2;have Eg:=w1.sz OA.rm.ne;have xk:s1.heap.objs.size<h'.objs.size:=by
   refine jI hit.obj ?_;rintro o _ _ ho _;exact jD ho
  have M9:H.objs.size=h'.objs.size+1:=by rw[<- hH,tK]
  have o9:∀b o,h'.get? b=some o->H.get? b=some o:=λb o e=>hH▸dF _ e;have ph:∀b o,H.get? b=some o->dN.get? b=some o:=λb o e=>G2.extBut b o (iE (jD e)) (dF _ e);obtain wA:= w1.grow keep;have wB:W w.params K fs (up bQ aY.length h'.objs.size) (aY++[O.list []]) H:=wA.one o9 (bC Eg (ky xk)) (bc _) (cF _ _ (by rw[<- hH];exact hW _ rfl) (.nil));obtain wC:=wB.grow ph;have hl:(aY++[O.list []]).length=aY.length+1:=by simp
  obtain ext:∀i,i<aY.length->up bQ aY.length h'.objs.size i=bQ i:=λi hi=>fV hi;have N3:bL [] (aI fs) bQ aY.length s1.heap (up bQ aY.length h'.objs.size) (aY++[O.list []]).length dN:=by
   rw[hl];refine⟨iF _,ext,λi i1 i2=>?_,λc o e=>⟨o,ph _ _ (o9 _ _ (keep _ _ e))⟩,λc o e Z Z Z Z=>ph _ _ (o9 _ _ (keep _ _ e)),λc o Z Z e=>⟨o.slots,ph _ _ (o9 _ _ (keep _ _ e))⟩⟩;obtain af: i=aY.length:=by lia
   clear i1 i2;subst af;rw[fX];exact get_none (ky xk)
  obtain kpA: Kp s1.heap bQ aY.length dN (up bQ aY.length h'.objs.size) (aY.length+1):=⟨iF _,ext,λb o e Z=>ph _ _ (o9 _ _ (keep _ _ e)),λZ Z e=>ph _ _ (o9 _ _ (keep _ _ e))⟩;obtain Zc:= OA.step (aJ:=up bQ aY.length h'.objs.size) (aj:=aY++[O.list []]) wC N3;have hC:N0<=H.objs.size:=by rw[M9];exact tG (bC Eg (ky xk))
  have MU:Apart fs (up bQ aY.length h'.objs.size) (aY++[O.list []]).length H.objs.size:=by
   refine⟨hC,λi hi=>?_,λm=>qe _ (wB.fr.lt m)⟩;exact iE (wB.lt hi)
  have fresh:s1.heap.get? H.objs.size=none:=get_none (by rw[M9];exact tG (ky xk));obtain eq1:newEnv sc H.objs.size ah.globals cl ah.qual none .none (some ah) builtinsNs=newEnv sc H.objs.size ah.globals cl ah.qual none .none (some ah) builtinsNs:=rfl;obtain eC: eK dN (up bQ aY.length h'.objs.size) (aY++[O.list []]).length {sc:=sc,loc:=[],cz:=U.cz,d:=U.d,ro:=[]} (compEnvC sc cl H.objs.size ah):=by
   refine⟨k2,cx.e.g,cx.e.b,(aP _ el (λx v hx=>by(exact nS hx))),hC,λi hi z=>?_,λx h=>BL h (by decide),λx h=>BL h (by decide),λx i h1 h2=>?_,λx h=>BL h (by decide),λx q h=>⟨(k3 _ (wX h)).1,(k3 _ (wX h)).2.1⟩⟩
   ·exact MU.own i hi z
   ·refine aG h1 ?_ ?_
    ·rintro h1;focus(refine pS ((k3 _ (wX h1)).2.2) (kA ?_) ?_ (kA ?_);rintro h _;rotate_left;rintro h;rotate_left;rintro h _;rotate_left)<;>exact nC oH h rfl
    ·rintro h1;focus(refine pS ((k3 _ (wX h1)).2.2) (kA ?_) ?_ (tx ?_);rintro h _;rotate_left;rintro h;rotate_left;rintro _ q1 _;rotate_left)
     ·exact nC oH h rfl
     ·exact nC oH h rfl
     ·refine fp (Zc.e.kc x i (.inl q1) h2) ?_;rintro a1 a2 a3;obtain ec:=cx.e.kk x q1;refine(dg a1 (.inl (ON h1 cx.e.k ec)) ?_);show cl.lookup x=_;refine oE (c4 _ (wX h1) rfl) ?_;rintro a ha;obtain mG:=(c2 _ _ ha).resolve_left (λh=>nomatch h);induction hq:cl.lookup x with
      |some b =>
       obtain af:= (c2 _ _ (mem_of_lookup hq)).resolve_left (λh=>nomatch h);rw[af]at a3;exact a3
      |none =>
       exfalso;obtain af:= PM.mp hq _ ha;simp at af
  obtain cxC: Ctx w.params K A fs L (compEnvC sc cl H.objs.size ah) {sc:=sc,loc:=[],cz:=U.cz,d:=U.d,ro:=[]} (up bQ aY.length h'.objs.size) (aY++[O.list []]) dN:=⟨cx.rm,cx.hd,cx.ef,wC,eC⟩;obtain Mw:iW dN (up bQ aY.length h'.objs.size) (aY++[O.list []]).length s1.heap.objs.size it:=by
   rw[hl];exact hit.kp ⟨iF _,ext,λb o e Z=>ph _ _ (o9 _ _ e),λZ Z e=>ph _ _ (o9 _ _ e)⟩ λo e=>ph _ _ (o9 _ _ e)
  obtain Yb: Apart fs (up bQ aY.length h'.objs.size) (aY++[O.list []]).length s1.heap.objs.size:=by
   refine⟨Eg,λi hi=>?_,λm=>qe _ (w1.fr.lt m)⟩;by_cases q:i<aY.length
   ·rw[ext i q];exact iE (w1.lt q)
   ·obtain af: i=aY.length:=by lia
    clear hi q;subst af;rw[fX];exact rN xk
  have e6:nx (sV sf (.cp {sc:=sc,loc:=[],cz:=U.cz,d:=U.d,ro:=[]} elt t ifs it aY.length)) (aY++[O.list []])=some (r,aj):=e5;refine aO (Kv e6) ?_;rintro vr rfl e7;have e8: ∃a,sf (.cp {sc:=sc,loc:=[],cz:=U.cz,d:=U.d,ro:=[]} elt t ifs it aY.length) (aY++[O.list []])=some (.ok (.v a),aj)/\a=vr:=by
   skip;refine aG (dM e7) (kA ?_) (cK ?_)
   ·rintro _ h;exact nC Zq.Rs.ctorIdx h rfl
   ·rintro an dz e8 e9;induction an<;>first|(cases e9;exact(aP _ e8 rfl))|exact nS e9
  refine aO e8 ?_;clear e8;rintro _ e8 rfl;have loop:codeAny (model au w) A (.compLoop (.ListComp elt [⟨t,iter,ifs,0⟩] sc pos) 0 (.ref s1.heap.objs.size) (.ref h'.objs.size) (compEnvC sc cl H.objs.size ah)) (compPost (model au w) A E none Q (.ref h'.objs.size) H.objs.size)
   {s1 with heap:=dN,toks:=s1.toks+0}:=by
   obtain lN:=N3.wide;have hx:up bQ aY.length h'.objs.size aY.length=h'.objs.size:=fX;obtain af:= I.cp (s:={s1 with heap:=dN,toks:=s1.toks+0}) elt t iter ifs sc pos it aY.length s1.heap.objs.size bQ aY.length s1.heap cxC Mw Yb lN gn (by rw[hl];exact mP _);rw[hx]at af;refine af _ _ (LF e8) _ λjy s3 w3 gI g3 g4=>⟨λa ha f hf=>?_,λh=>(nC Zq.Rs.ctorIdx h rfl)⟩;(revert hf;refine dI ha ?_;clear ha a;intro hf);refine zh hf ?_;clear hf;rintro ha rfl ⟨m,hm⟩ Zn hk Yn;cases ha;refine(aP m hm (λh4 sb=>?_));obtain wJ: bL [] (aI fs) bQ aY.length s1.heap jy aj.length s3.heap:=gI.fresh λb hb=>by(refine il (iD.mp hb) ?_);exact fresh
   refine dG (id hm) ?_;rintro oC esC epC z7 Y1 _;obtain WT: Apart fs jy aj.length H.objs.size:=by
    exact⟨hC,λi hi z=>Zn i hi z,MU.fr⟩
   obtain nI: ∀x,s3.heap.get? H.objs.size=some x->¬dE x:=λx e=>by
    obtain z7:s3.heap.get? H.objs.size=some oC:=z7;rw[e]at z7;(refine dP z7 ?_);unfold dE;rw[Y1];simp
   obtain w4:= w3.but WT nI sb.extBut;obtain lS:= wJ.but sb.extBut fresh;refine(hq jy {s3 with heap:=h4} w4 (bh.trans lS) (g3.trans g1) (g4.trans g2)).1 _ rfl _ ?_;exact⟨hk,by rw[Yn]⟩
  exact codeAny_compStart_list loop (Q0 (s:={s1 with heap:=dN,toks:=s1.toks+0}) Mw loop)
end
noncomputable def hM:List az:=[.ref 122,.type "Exception",.type "BaseException",.type "object"]
theorem j5:ExcBaseFacts "Exception" "Exception.__new__" "Exception.__init__" [.type "Exception",.type "BaseException",.type "object"]:=PySem.F.excBase_Exception
theorem CR:(dn C::hM).contains (.type "Exception")=true:=by simp[hM]
theorem Ts:(dn C::hM).contains (.type "AttributeError")=false:=by simp[hM]
theorem To:(dn C::hM).contains (.type "NameError")=false:=by simp[hM]
inductive n7 (K:bz):Prop where
 |mk (nm q:ak) (N:ax) (bs:List az) (sn:List ak) (sub:List az) (ab:Bool) (kZ:Option Bool) (dd:Option ax) (k0 k1 k2 k3 k5:Option az):K.lookup CF=some (excClassObj nm q CF N bs hM true sn sub ab kZ dd k0 k1 k2 k3 k5 "Exception.__new__")->n7 K
structure FaultOk (K:bz):Prop where
 cls:n7 K
 gf:findIn K (.ref CF) "__init__"=some (some (.ref 140))
 OC:typeIn K (.ref 140)=some (.type "function")
section
variable {au:cB}{w:bw}{A:bZ}{E:az->aN->Prop}{R:nq->aN->Prop}{h:bf}{g:Array GenState}{d:Drawn}{t:Nat}{os:cZ}
variable {nm q:ak}{C N:ax}{bs:List az}{zM:Bool}{sn:List ak}{sub:List az}{ab:Bool}{kZ:Option Bool}{dd:Option ax}{k0 k1 k2 k3 k5:Option az}{K:bz}
theorem PB (hC:h.get? C=some (excClassObj nm q C N bs hM zM sn sub ab kZ dd k0 k1 k2 k3 k5 "Exception.__new__"))(hq:Q () ⟨h,g,d,t,os⟩):wpAny M A (checkBuiltinCall "Exception.__new__" ⟨.ref C::aq,[]⟩) Q E ⟨h,g,d,t,os⟩:=by
 obtain Vm:=CR (C:=C);obtain aae:= j5.noStar;unfold checkBuiltinCall;rw[j5.newRow,j5.newKind,j5.newSplit];dsimp only
 repeat(first|refine pX hC ?_|(refine vh hC ?_;(rewrite[Vm];try(with_reducible rfl)))|refine wpAny_staticBase_exc hC ?_|refine wpAny_madeBy_exc hC ?_|simp only[bne_self_eq_false,Bool.false_eq_true,if_false]|wp_step)
 exact hq
theorem Wu {aq:List az}(hC:h.get? C=some (excClassObj nm q C N bs hM zM sn sub ab kZ dd k0 k1 k2 k3 k5 "Exception.__new__"))
 (hq:R (.ok (.ret (.ref (h.objs.size+1)))) ⟨(h.push {cls:=.type "tuple",data:=.seq aq.toArray}).push
  {cls:=.ref C,data:=.fields #[.ref h.objs.size,.none,.none,.none,.bool false,.none]},g,d,t,os⟩) (ue:aq.length<=sizeLine:=by size_fits) :
 codeAny (model au w) A (.builtin "Exception.__new__" ⟨.ref C::aq,[]⟩) R ⟨h,g,d,t,os⟩:=by
 obtain aac:= j5.ends;obtain tv:=CR (C:=C);obtain hcA:=Ts (C:=C);obtain YQ:=To (C:=C);refine PySem.codeAny_builtinAt j5.entry ?_;unfold Builtin.«BaseException.__new__»;refine PySem.wpAt_bind ?_;refine PySem.wpAt_bind (PySem.wpAt_stack λp below=>PySem.wpAt_of_wpAny ?_)
 wp_walk
 refine PySem.wpAt_of_wpAny ?_;rw[j5.owner]
 repeat(first|with_reducible refine wpAny_madeHere_exc j5.canon hC ?_|with_reducible refine pX hC ?_|(with_reducible refine vh hC ?_;first|(rewrite[tv];try(with_reducible rfl))|(rewrite[hcA];try(with_reducible rfl))|(rewrite[YQ];try(with_reducible rfl)))|wp_step)
 show R _ _;rw[tK];exact hq
end
section
variable {au:cB}{w:bw}{A:bZ}{E:az->aN->Prop}{R:nq->aN->Prop}{h:bf}{g:Array GenState}{d:Drawn}{t:Nat}{os:cZ}
variable {nm q:ak}{C N:ax}{bs:List az}{zM:Bool}{sn:List ak}{sub:List az}{ab:Bool}{kZ:Option Bool}{dd:Option ax}{k0 k1 k2 k3 k5:Option az}{K:bz}
abbrev fI (t:ax):cI:={cls:=.ref CF,data:=.fields #[.ref t,.none,.none,.none,.bool false,.none]}
theorem Vk (X:K.In h)(FO:FaultOk K){aq:List az}
 (hq:codeAny (model au w) (A.under (.builtin "type.__call__" ⟨.ref CF::aq,[]⟩)) (.call (.ref 140) ⟨.ref (h.objs.size+1)::aq,[]⟩) (InitBack (h.objs.size+1) R)
  ⟨(h.push {cls:=.type "tuple",data:=.seq aq.toArray}).push (fI h.objs.size),g,d,t,os⟩) (ue:aq.length<=sizeLine:=by size_fits) :
 codeAny (model au w) A (.call (.ref CF) ⟨aq,[]⟩) R ⟨h,g,d,t,os⟩:=by
 refine n7.casesOn FO.cls ?_;rintro nm q N bs sn sub ab kZ dd k0 k1 k2 k3 k5 hK;have hC:=X _ _ hK;have f1:=tc_lookup;obtain f2:= tc_bind (.ref CF);obtain hT: (⟨h,g,d,t,os⟩:aN).TypeIs (.ref CF) "type":=(aP _ hC rfl);refine BQ ?_
 repeat(any_goals (first|assumption|with_reducible refine pX hC ?_|wp_step))
 refine⟨rfl,?_⟩;refine codeAny_call_builtin_at (Hx _ (by decide +kernel)) PySem.entry_typeCall (wpAny_check_type_call_sub hC ?_)
 repeat(first|with_reducible refine pX hC ?_|with_reducible refine wpAny_madeBy_exc hC ?_|wp_step)
 refine codeAny_call_builtin_code (Hx _ j5.quiet) (PB hC ?_);refine Wu hC ?_ ue;have kk:∀b o,h.get? b=some o->((h.push {cls:=.type "tuple",data:=.seq aq.toArray}).push (fI h.objs.size)).get? b=some o:=λb o e=>dF _ (dF _ e);obtain WI:= kk _ _ hC;have MC:=X.keeps kk;obtain EK: ((h.push {cls:=.type "tuple",data:=.seq aq.toArray}).push (fI h.objs.size)).get? (h.objs.size+1)=some {cls:=.ref CF,data:=.fields #[.ref h.objs.size,.none,.none,.none,.bool false,.none]}:=by heap_get
 obtain Yv: (dn CF::hM).contains (.ref CF)=true:=by simp
 have t1:Looks (model au w) ((h.push {cls:=.type "tuple",data:=.seq aq.toArray}).push (fI h.objs.size)) (typeOf (.ref (h.objs.size+1))) (.ref CF):=(rZ EK).andThen .now;obtain s1: Looks (model au w) ((h.push {cls:=.type "tuple",data:=.seq aq.toArray}).push (fI h.objs.size)) (isSubtype (.ref CF) (.ref CF)) true:=λA Q E s k q=>by
  obtain⟨hh,g',d',t',YX⟩:=s;exact vh (k _ _ WI) (by rw[Yv];exact q)
 obtain i1:= looks_findIn (M:=model au w) MC FO.gf;obtain b1:= bind_fn (M:=model au w) MC (.ref (h.objs.size+1)) FO.OC;unfold isInstance;refine aF (aF (t1.at (s1.at ?_)));rw[if_neg (by decide)];unfold callSpecial? specialOf;refine aF (fy (aF (aF (t1.at (i1.at ?_)))));refine fy (aF (b1.at (aF ?_)));refine tS (codeAny_mono hq λr s' z=>?_);rcases r with e|(v|_|_|_)<;>first|exact z|exact z.elim|skip
 refine oA z ?_;rintro rfl z;exact bq (bq z)
end
open Builtin Builtin.ObjectAttr
structure FaultMore (K:bz):Prop extends FaultOk K where
 sO:my K 140 nj
 qN:my K 119 mu
 me:nsIn K mainGlobals "MarkupError"=some (some (.ref 122))
 ex:nsIn K mainGlobals "Exception"=some none
 rd:readsIn K 122 (.type "type")=true
 fc:findCls K (.ref 122) (.type "type") "__init__"=some (.val (.ref 119))
 ga:specialIn K (.ref 122) "__getattribute__"=some (some (.builtin "type.__getattribute__"))
 sa:findIn K (.ref CF) "__setattr__"=some (some (.builtin "object.__setattr__"))
 n1:findIn K (.ref CF) "message"=some none
 n2:findIn K (.ref CF) "place"=some none
 tg:findIn K (.type "type") "__getattribute__"=some (some (.builtin "type.__getattribute__"))
 ts:PySem.W.subIn K (.type "type") (.type "type")=some true
 fe:findCls K (.type "Exception") (.type "type") "__init__"=some (.val (.builtin "Exception.__init__"))
section
variable {au:cB}{w:bw}{A:bZ}{E:az->aN->Prop}{R:nq->aN->Prop}{s:aN}{K:bz}
theorem yY (FO:FaultOk K):∃cd,clsIn K CF=some cd/\cd.hasDict=true/\cd.mro=.ref CF::hM:=by
 refine n7.casesOn FO.cls ?_;rintro nm q N bs sn sub ab kZ dd k0 k1 k2 k3 k5 hK;exact(cO _ (by unfold clsIn;rw[hK]) rfl rfl)
theorem Ks {d:ax}{es:List oR}{k:Nat}{x:ak}{tk:Tok}{y:az}{Q:Fin->aN->Prop}(e1:s.heap.get? d=some (dictOf es k))(hr:es.any (·.refKey)=false)(hl:es.length<=1000)(kO:sq w.params es)(nd:(es.map i6).Nodup)
 (h:Q (.done (.ret .none)) {s with heap:=s.heap.update d (Obj.putName x (gm w.params x) (.str x s.toks) y),toks:=s.toks+1}):wpAny (model au w) A (storeInDict d (.str x tk) x y) Q E s:=by
 skip;refine aF (bq (aF ?_));skip;refine aF (aF (wpAny_askSetting (bq (aF (yB (aF (yl e1 ?_)))))));dsimp only;obtain c: (!es.toArray.any (·.key.isStr x)&&es.toArray.any (·.refKey))=false:=by
  rw[<- Bu,<- Bu];rw[hr,IC]
 rw[aRefKeyMayBeTheName_at,c];refine wpAny_updatePart e1 ?_;obtain hp:=putName_dict x (gm w.params x) (.str x s.toks) y es k;obtain D': (s.heap.update d (Obj.putName x (gm w.params x) (.str x s.toks) y)).get? d=some (dictOf (putL x (gm w.params x) (.str x s.toks) y es) (putN x es k)):=by
  rw[<- hp];exact ku _ e1 (by rw[hp];rfl)
 obtain fY: (putL x (gm w.params x) (.str x s.toks) y es).length<=es.length+1:=by
  rw[(yV (name:=x) (t:=s.toks) (y:=y) kO nd).2.2.2];split<;>lia
 exact aF (wpAny_lookBehind D' (pastItsLine_dict (by rw[Bo,sizeLine_eq];lia)) (bq h))
theorem LP (X:K.In s.heap)(FO:FaultMore K)(hx:s.heap.get? x=some ox)(hc:ox.cls=.ref CF)(hn:findIn K (.ref CF) name=some none) (h:wpAny (model au w) A.in1 (storeInOwnDict (.ref x) (.ref CF) (.str name tk) name v false)
 (λfin s'=>match fin with|.done f=>R (.ok f) s'|.again c'=>c'.quiet=true/\codeAny (model au w) A c' R s') (λe s'=>R (.error e) s') s):codeAny (model au w) A (.call (.builtin "object.__setattr__") ⟨[.ref x,.str name tk,v],[]⟩) R s:=by
 obtain SF:=PySem.F.store_object;refine cy (yY FO.toFaultOk) ?_;rintro cd ri _ hm;obtain t1:Looks (model au w) s.heap (typeOf (.ref x)) (.ref CF):=by
  obtain af:= (rZ (M:=model au w) (part:=some headPart) hx).andThen (f:=λo=>pure o.cls) (Looks.now (a:=ox.cls));rw[hc]at af;exact af
 obtain mr: Looks (model au w) s.heap (mroOf (.ref CF)) (.ref CF::hM):=by
  obtain af:= (looks_clsIn (M:=model au w) X ri).andThen (f:=λcd=>pure cd.mro) (Looks.now (a:=cd.mro));rw[hm]at af;exact af
 obtain sub: Looks (model au w) s.heap (isInstance (.ref x) (.type "object")) true:=t1.andThen (looks_mroIn X (by unfold mroIn;rw[ri,jC,hm];rfl));refine HD SF.slot.plain SF.entry (@check_slot (model au w) _ _ s "object.__setattr__" "object" "__setattr__" (.ref x) [.str name tk,v] [] _ SF.kind SF.split sub (SF.args (.ref x) (.str name tk) v) ?_);rw[osa_eq,refuse_eq];refine aF (aF (t1.here (aF (mr.here ?_))));rw[show hM=.ref 122::[.type "Exception",.type "BaseException",.type "object"] from rfl,refuseLoop_ref,refuseLoop_ref,PySem.F.store_Exception.passes];refine bq (aF (t1.here (aF ((looks_findIn X hn).here (aF (bq ?_))))));exact h
theorem UN {x t:ax}{name:ak}{v:az}{Q:Unit->aN->Prop}(X:K.In s.heap)(FO:FaultMore K)(hx:s.heap.get? x=some (fI t))(hn:findIn K (.ref CF) name=some none)
 (h:∀h' d tk oy,s.heap.get? d=none->d≠x->(∀b o,b≠x->s.heap.get? b=some o->h'.get? b=some o)->h'.get? x=some {fI t with dict:=some d} ->
  h'.get? d=some (dictOf [⟨gm w.params name,.str name oy,v⟩] 1)->s.heap.objs.size<=h'.objs.size->Q () {s with heap:=h',toks:=tk}):wpAny (model au w) A (setAttr (.ref x) name v) Q E s:=by
 obtain I: InstAt s.heap x (fI t) CF none:=⟨hx,rfl,rfl,trivial⟩;refine cy (yY FO.toFaultOk) ?_;rintro cd ri hd _;refine set_plain X I FO.sa ?_;refine LP (s:={s with toks:=s.toks+1}) X FO hx rfl hn ?_;skip;refine aF (bq (aF (aF (yl hx (aF (looks_clsIn (M:=model au w) X ri _ _ _ _ (λZ Z e=>e) ?_))))));rw[hd];obtain gJ:=rN (jD hx);obtain gg:=dF _ hx;refine aF (wpAny_alloc (aF (wpAny_update gg (bq ?_))));obtain hU: ((s.heap.push emptyDict).update x λo=>{o with dict:=some s.heap.objs.size}).get? x=some {fI t with dict:=some s.heap.objs.size}:=ku _ gg rfl;obtain hD:((s.heap.push emptyDict).update x λo=>{o with dict:=some s.heap.objs.size}).get? s.heap.objs.size=some (dictOf [] 0):=by
  rw[kr _ _ (i5 gJ)];exact hW _ rfl
 refine Ks (s:={s with heap:=(s.heap.push emptyDict).update x λo=>{o with dict:=some s.heap.objs.size},toks:=s.toks+1}) hD rfl (fP _) (λZ m=>nomatch m) (by simp) ?_;obtain hp:=putName_dict name (gm w.params name) (.str name (s.toks+1)) v [] 0;refine h _ s.heap.objs.size _ (s.toks+1) (get_none (bc _)) gJ (λb o hb e=>?_) ?_ ?_ ?_
 ·rw[kr _ _ (rN (jD e)),kr _ _ (i5 hb)];exact dF _ e
 ·rw[kr _ _ gJ];exact hU
 ·rw[show dictOf [⟨gm w.params name,.str name (s.toks+1),v⟩] 1=_ from hp.symm];exact ku _ hD (by rw[hp];rfl)
 ·rw[Bx,Bx,tK];exact iF _
theorem Uh {x t d:ax}{name:ak}{v:az}{es:List oR}{k:Nat}{Q:Unit->aN->Prop}(X:K.In s.heap)(FO:FaultMore K)(hx:s.heap.get? x=some {fI t with dict:=some d})(e1:s.heap.get? d=some (dictOf es k))(hn:findIn K (.ref CF) name=some none)
 (hr:es.any (·.refKey)=false) (hl:es.length<=1000) (kO:sq w.params es) (nd:(es.map i6).Nodup)
 (h:∀h' tk oy,(∀b o,b≠d->s.heap.get? b=some o->h'.get? b=some o)->h'.get? d=some (dictOf (putL name (gm w.params name) (.str name oy) v es) (putN name es k))->h'.objs.size=s.heap.objs.size->Q () {s with heap:=h',toks:=tk}) :
 wpAny (model au w) A (setAttr (.ref x) name v) Q E s:=by
 obtain I: InstAt s.heap x {fI t with dict:=some d} CF (some (dictOf es k)):=⟨hx,rfl,rfl,e1⟩;refine cy (yY FO.toFaultOk) ?_;rintro cd ri hd _;refine set_plain X I FO.sa ?_;refine LP (s:={s with toks:=s.toks+1}) X FO hx rfl hn ?_;skip;refine aF (bq (aF (aF (yl hx (aF (looks_clsIn (M:=model au w) X ri _ _ _ _ (λZ Z e=>e) ?_))))));rw[hd];refine bq (a:=some d) (aF (bq ?_));refine Ks (s:={s with toks:=s.toks+1}) (tk:=s.toks) e1 hr hl kO nd ?_;obtain hp:=putName_dict name (gm w.params name) (.str name (s.toks+1)) v es k;refine h _ _ (s.toks+1) (λb o hb e=>(kr _ _ (i5 hb)).trans e) ?_ (Bx _ _ _);rw[<- hp];exact ku _ e1 (by rw[hp];rfl)
theorem Pd {os:cZ}{sub:List az}(hC:h.get? C=some (excClassObj nm q C N bs hM zM sn sub ab kZ dd k0 k1 k2 k3 k5 "Exception.__new__"))(he:h.get? e=some oe)(EG:oe.cls=.ref C)(hq:Q () ⟨h,g,d,t,os⟩):wpAny M A (checkBuiltinCall "Exception.__init__" ⟨.ref e::aq,[]⟩) Q E ⟨h,g,d,t,os⟩:=by
 obtain tv:=CR (C:=C);obtain aaa:= j5.noStar;unfold checkBuiltinCall;rw[j5.initRow,j5.initKind,j5.initSplit];dsimp only
 repeat(first|(with_reducible refine pX he ?_;(rewrite[EG];try(with_reducible rfl)))|with_reducible refine pX hC ?_|(with_reducible refine vh hC ?_;(rewrite[tv];try(with_reducible rfl)))|wp_step)
 refine wpAny_onRaise ?_;rw[show ∀(a b:String) (n:Nat),Bind.check ⟨.positional, "*", "Exception",.self,[⟨"args",.varPos,false⟩]⟩ a b n (List.map (λx=>x.fst) ({pos:=dn e::aq}:Args).kw)=pure () from
  λa b n=>check_star_args _ _ _ _ _ _]
 exact bq hq
theorem PY {x t:ax}{aq:List az}{Q:az->aN->Prop}(X:K.In s.heap)(FO:FaultMore K)(hx:s.heap.get? x=some (fI t))(ue:aq.length<=sizeLine)
 (h:∀h' t',(∀b o,b≠x->s.heap.get? b=some o->h'.get? b=some o)->h'.get? x=some (fI t')->s.heap.objs.size<=h'.objs.size->Q .none {s with heap:=h'}) :
 wpAny (model au w) A (call (.builtin "Exception.__init__") (.ref x::aq)) Q E s:=by
 refine n7.casesOn FO.cls ?_;rintro nm q N bs sn sub ab kZ dd k0 k1 k2 k3 k5 hK;obtain hC:= X _ _ hK;clear X;obtain⟨hh,g,d,tk,os⟩:=s;refine tS (HD j5.init.plain j5.initEntry (Pd hC hx rfl ?_));unfold Builtin.«BaseException.__init__»;dsimp only;refine aF (wpAny_newTuple (aF ?_) ue);unfold Builtin.BaseException.bexcPut;have gg:(hh.push {cls:=.type "tuple",data:=.seq aq.toArray}).get? x=some (fI t):=dF _ hx;refine aF (jE gg rfl (x:=.ref t) rfl ?_);refine aF (rL gg rfl (by simp) ?_);refine wpAny_letGo (bq ?_);refine h _ hh.objs.size (λb o hb e=>?_) ?_ ?_
 ·rw[kr _ _ (i5 hb)];exact dF _ e
 ·exact ku _ gg rfl
 ·rw[Bx,tK];exact iF _
end
end Zq
namespace Zq
open PySem PySem.W PySem.Calls PyProof.Rows PySem.SeqAt
theorem V0:∃p1 p2 p3 p4 p5 p6 p7 p8 p9 iS,nj.body=[.Expr (.Call (.Attribute (.Name "MarkupError" p1) "__init__" p2) [.Name "self" p3,.Name "message" p4] [] p5) p6,.Assign [.Attribute (.Name "self" p7) "place" p8] (.Name "place" p9) iS]/\p2.endLine=p5.line:=⟨_,_,_,_,_,_,_,_,_,_,rfl,rfl⟩
theorem Wb:∃p1 p2 p3 p4 p5 p6 p7 p8 p9 iS,mu.body=[.Expr (.Call (.Attribute (.Name "Exception" p1) "__init__" p2) [.Name "self" p3,.Name "message" p4] [] p5) p6,.Assign [.Attribute (.Name "self" p7) "message" p8] (.Name "message" p9) iS]/\p2.endLine=p5.line:=⟨_,_,_,_,_,_,_,_,_,_,rfl,rfl⟩
theorem Y3:nj.df=[.int 0]:=rfl
theorem kS:bI "self" nj.scope=some .local/\bI "message" nj.scope=some .local/\bI "place" nj.scope=some .local/\bI "MarkupError" nj.scope=some .globalImplicit:=(pq rfl rfl rfl rfl)
theorem kM:bI "self" mu.scope=some .local/\bI "message" mu.scope=some .local/\bI "Exception" mu.scope=some .globalImplicit:=(dg rfl rfl rfl)
theorem cS:nj.scope.names.all (λp=>p.2 != .cell)=true:=rfl
theorem cM:mu.scope.names.all (λp=>p.2 != .cell)=true:=rfl
section
variable {au:cB}{w:bw}{A:bZ}{E:az->aN->Prop}{R:nq->aN->Prop}{s:aN}{K:bz}{ah:a9}
theorem IP (fo:my K a fi)(X:K.In s.heap)(f1:K.lookup a=some ⟨oc,od,.func fd,iU⟩):∃ds,ds.length=fi.df.length/\(∀h ρ n,aW h ρ n fi.df ds)/\∀vs:List az,vs.length<=fi.ps.length->fi.ps.length-fi.df.length<=vs.length->BindsTo s fd ⟨vs,[]⟩ (fi.ps.zip (vs++ds.drop (vs.length-(fi.ps.length-fi.df.length)))):=by
 refine G6 fo.ex ?_;rintro NN iA M8 LU g1 f2 f3 f4 f5 f6 f7 f8 f9 ds AF Fu xI;rw[f1]at g1;cases g1;have nH:=(xI s.heap (λZ=>0) 0).len;refine(cO ds nH xI (λvs h1 h2=>?_));obtain Gq: ∀(M:gT) (A:bZ) (E:az->aN->Prop) (Q:Option (Array az)->aN->Prop),(∀o,(o.getD #[]).toList=ds->Q o s)->wpAny M A (seqItems? fd.defaults) Q E s:=λM A E Q h=>by
  refine aG Fu (kA ?_) (qy ?_)
  ·rintro h1 h2;rw[h1];exact bq (h none (by rw[h2];rfl))
  ·rintro T o k h1 h2 h3;rw[h1];exact wpAny_seqItems (X _ _ h2) h3 (h _ rfl)
 have af:=Cn (jM:=vs) f8 (by rw[f9];exact fo.nd) Gq (by rw[f9];exact h1) (by rw[f9,nH];exact AF) (by rw[f9,nH];exact h2);rw[f9,nH]at af;exact af
structure PF (ah:a9)(fi:FI):Prop where
 k:ah.scope.kind=.function
 g:ah.globals=mainGlobals
 b:ah.builtins=builtinsNs
 kO:∀x,ah.kindOf x=bI x fi.scope
theorem Lu (fo:my K a fi)(f2:fd.scope=fi.scope)(f6:fd.globals=mainGlobals)(f7:fd.builtins=builtinsNs):PF (callEnv fd L a) fi :=
 ⟨by show fd.scope.kind=_;rw[f2];exact fo.k,f6,f7,λx=>by show fd.scope.names.lookup x=_;rw[f2];unfold bI;rw[iY]⟩
theorem yL (p:PF ah fi)(hk:bI x fi.scope=some .local)(hn:s.heap.Ns ah.locals m)(hv:m x=some v)(hd:(x==("__debug__":ak))=false)(h:Q v s):wpAny (model au w) A (eval (.Name x pos) ah) Q E s:=vU (Bg p.k (by rw[p.kO];exact hk) hn hv h) hd
theorem Jk {fi:FI}{c:ak}{p1 p2 p3 p4 p5 p6:aZ}{aq:List bO}{m:ak->Option az}{cv f vx vm:az}{Q:j9->aN->Prop}(p:PF ah fi)(hl:p2.endLine=p5.line)
 (VM:∀(Q:az->aN->Prop),Q cv s->wpAny (model au w) A (eval (.Name c p1) ah) Q E s)
 (Wq:∀(Q:az×List az->aN->Prop) pl,(∀tk,Q (f,[]) {s with toks:=tk})->wpAny (model au w) A (getMethod cv "__init__" pl) Q E s)
 (DV:Kept (model au w) f s.heap)
 (k1:bI "self" fi.scope=some .local) (k2:bI "message" fi.scope=some .local) (hn:s.heap.Ns ah.locals m) (h1:m "self"=some vx) (h2:m "message"=some vm)
 (h:∀tk,wpAny (model au w) A (call f [vx,vm]) (λZ s'=>wpAny (model au w) A (execs aq ah) Q E s') E {s with toks:=tk}) :
 wpAny (model au w) A (execs (.Expr (.Call (.Attribute (.Name c p1) "__init__" p2) [.Name "self" p3,.Name "message" p4] [] p5) p6::aq) ah) Q E s:=by
 refine vw ?_;rw[exec_Expr ah _ _ (Iq p.k) rfl];refine aF (jl (aF ?_));rw[arm_eval_Call];refine aF (VM _ (aF (jl ?_)));obtain Dz: (p2.endLine==p5.line)=true:=by rw[hl];simp
 obtain Ei: methodCallPos true (.Name c p1) ah p2 p5=pure p5:=by unfold methodCallPos;simp[Dz]
 obtain DU: methodCallForm ([PySem.Expr.Name "self" p3,.Name "message" p4].length+([]:List Keyword).length) (backTo p5 (starEach [.Name "self" p3,.Name "message" p4] ah)) (backToKw p5 (keywordEach [] ah))=true:=by
  skip;rfl
 unfold methodCall;rw[DU,Ei];refine aF (fy (Wq _ _ λtk=>aF (bq ?_)));refine callWith_of (P:=Kept (model au w) f) rfl (λh x=>x) (Bp rfl ?_);refine spliced_cons (yL (s:={s with toks:=tk}) p k1 hn h1 (by decide) (spliced_cons (yL (s:={s with toks:=tk}) p k2 hn h2 (by decide) (spliced_nil ⟨DV,?_⟩))));exact ql (h tk) (λv s' h'=>KN h') λZ Z e=>e
end
theorem yJ {K:bz}(b:jc K h)(hN:N0<=x)(ni:∀o,h.get? x=some o->¬dE o)(k:∀c o,c≠x->h.get? c=some o->h'.get? c=some o):jc K h' :=
 b.keep (λa o h1 Z e=>k a o (λz=>absurd (z▸hN) (tI h1)) e) (λo e=>k _ _ (λz=>absurd (z▸hN) (by decide)) e) (λb o e im=>k b o (λz=>ni o (z▸e) im) e)
section
variable {au:cB}{w:bw}{A:bZ}{E:az->aN->Prop}{R:nq->aN->Prop}{s:aN}{K:bz}{ah:a9}
theorem Ic (p:PF ah fi)(k1:bI "self" fi.scope=some .local)(k2:bI n fi.scope=some .local)(hd:(n==("__debug__":ak))=false)(hn:s.heap.Ns ah.locals m)(h1:m "self"=some vx)(h2:m n=some v)(h:wpAny (model au w) A (setAttr vx a v) (λZ s'=>Q .next s') E s):wpAny (model au w) A (execs [.Assign [.Attribute (.Name "self" p7) a p8] (.Name n p9) iS] ah) Q E s:=by
 refine vw ?_;obtain e2: exec (.Assign [.Attribute (.Name "self" p7) a p8] (.Name n p9) iS) ah=(standAt iS>>=λZ=>swapsWith (.Name n p9) (some (.Attribute (.Name "self" p7) a p8)) iS.line ah>>=λb=>if b=true then (do
  evalThenUse (.Name n p9) ah λv=>assignAll v ((assignEach [.Attribute (.Name "self" p7) a p8] ah).map (·.2))
  pure .next) else (eval (.Name n p9) ah>>=λv=>swappedStores [.Attribute (.Name "self" p7) a p8] (.Name n p9) ah>>=λsw=>assignStores ah v sw ((assignEach [.Attribute (.Name "self" p7) a p8] ah).map (·.2)))):=rfl
 rw[e2];refine aF (jl ?_);rw[B3 (by rfl),pure_bind,if_neg (by decide)];refine aF (yL p k2 hn h2 hd ?_);rw[Ca (λZ Z Z Z Z Z z=>by exact nC Hl (z.1) rfl) (λZ Z z=>by exact nC Hl z rfl),pure_bind];show wpAny _ _ (assign (.Attribute (.Name "self" p7) a p8) ah v>>=λZ=>pure Flow.next) _ _ _;rw[arm_assign_Attribute];refine aF (aF (fy (yL p k1 hn h1 (by decide) (aF (jl (aF (fy (ql h (λZ s' h'=>vG (bq ?_)) λZ Z e=>e))))))));exact vB h'
theorem Sn (X:K.In s.heap)(FO:FaultMore K)(st:nsIn K cStatics "thirdparty.any"=some none){pl:Sem Bool}{Q:az×List az->aN->Prop}(h:∀tk,Q (.builtin "Exception.__init__",[]) {s with toks:=tk}) :
 wpAny (model au w) A (getMethod (.type "Exception") "__init__" pl) Q E s:=by
 obtain ht:=yf (by kernel_rfl);obtain Ye:= looks_findIn (M:=model au w) X FO.tg;skip;refine aF (aF (ht.here (Ye.here ?_)));dsimp only;rw[if_pos canon_tga];refine aF (cls_open (c:=.type "Exception") (mc:=.type "type") (hook:=none) X (yf (by kernel_rfl)) ht FO.tg (yf (by rfl)) FO.ts FO.fe ?_);refine bq ?_;show wpAny _ _ (handedOut (.builtin "Exception.__init__")) _ _ _;rw[handedOut_of (by decide +kernel)];exact bq (bq (h _))
end
structure FaultAll (K:bz):Prop extends FaultMore K where
 st:nsIn K cStatics "thirdparty.any"=some none
 bE:bootBuiltins "Exception"=some (.type "Exception")
section
variable {au:cB}{w:bw}{A:bZ}{E:az->aN->Prop}{R:nq->aN->Prop}{s:aN}{K:bz}
theorem Ci {fi:FI}(h:fi.scope.names.all (λp=>p.2 != .cell)=true):∀x∈fi.scope.names,x.2≠.cell:=λx hx z=>by
 obtain af:= pZ.mp h x hx;rw[z]at af;exact fT af
theorem QO (FO:FaultAll K)(ba:jc K s.heap)(oD:A.depth+20<=900){x t:ax}{m:ak}{tm:Tok}(hN:N0<=x)(hx:s.heap.get? x=some (fI t))
 (h:∀h' d t' tk oy,(∀b o,b≠x->s.heap.get? b=some o->h'.get? b=some o)->s.heap.get? d=none->d≠x->h'.get? x=some {fI t' with dict:=some d} ->
  h'.get? d=some (dictOf [⟨gm w.params "message",.str "message" oy,.str m tm⟩] 1)->s.heap.objs.size<=h'.objs.size->R (.ok (.ret .none)) {s with heap:=h',toks:=tk}) :
 codeAny (model au w) A (.call (.ref 119) ⟨[.ref x,.str m tm],[]⟩) R s:=by
 refine Bc FO.qN.ex ?_;rintro oc od fd iU f1 f2 f3 f4 f5 f6 f7 f8 f9 _;refine cy (IP FO.qN ba.k f1) ?_;rintro ds d1 d2 hb;obtain lB:= hb [.ref x,.str m tm] (dA rfl) (dA rfl);obtain d0:=Hb.mp d1;rw[d0]at lB;obtain xB:mu.ps.zip ([.ref x,.str m tm]++([]:List az).drop (([.ref x,.str m tm]:List az).length-(mu.ps.length-mu.df.length)))=[(sl "self",.ref x),(sl "message",.str m tm)]:=rfl;rw[xB]at lB;refine IE (fd:=fd) (body:=mu.body) (binds:=[(sl "self",.ref x),(sl "message",.str m tm)]) (by show A.depth<1000;lia) (ba.k _ _ f1) rfl ba.lim (codeRec_of ba.k f4) f3 lB
  (by rw[f2];exact Ci cM) (λy hy=>?_) (λh₀ el keep=>?_) (by rw[f2];exact FO.qN.co) (by rw[f2];exact FO.qN.gen) (by rw[f2];exact FO.qN.k)
 ·rw[f2];have af:=kM;unfold bI at af;rw[iY,iY]at af;refine aG (cU.mp hy) ?_ ?_
  ·rintro rfl;exact af.1
  ·rintro hy;refine aG (cU.mp hy) ?_ ?_
   ·rintro rfl;exact af.2.1
   ·rintro hy;cases hy
 have pf:=Lu (L:=s.heap.objs.size) FO.qN f2 f6 f7;generalize eo:callEnv fd s.heap.objs.size 119=ah at pf ⊢;have hL:ah.locals=s.heap.objs.size:=by rw[<- eo];rfl
 obtain Fh:=rN (jD hx);have b1:=yJ ba hN (h':=h₀) (λo e=>by rw[hx]at e;(refine aT e ?_);exact tL rfl) λc o Z e=>keep c o e;obtain gg:=keep _ _ hx;refine Hq Wb ?_;rintro p1 p2 p3 p4 p5 p6 p7 p8 p9 iS xa hl;rw[xa];refine cj b1.ns ?_;rintro mg mb g1 g2 g3;rw[<- hL]at el;refine Jk (s:={s with heap:=h₀,toks:=_}) pf hl (cv:=.type "Exception") (f:=.builtin "Exception.__init__") (vx:=.ref x) (vm:=.str m tm) (λQ hq=>Bh pf.k (by rw[pf.kO];exact kM.2.2) (loadGlobal_builtin (by rw[pf.g];exact g1) (mg_none_of b1.k g1 FO.ex) (by rw[pf.b];exact g2) ((g3 _ (by decide)).trans FO.bE) hq))
  (λQ pl hq=>Sn (s:={s with heap:=h₀,toks:=_}) b1.k FO.toFaultMore FO.st hq) (aP (.machine) (.inr (.inl rfl)) (yf rfl)) kM.1 kM.2.1 el rfl rfl λtk=>?_
 refine PY (s:={s with heap:=h₀,toks:=tk}) b1.k FO.toFaultMore gg (by rw[sizeLine_eq];exact dA rfl) λdN t' k2 jg F7=>?_;obtain b2:= yJ b1 hN (λo e=>by rw[gg]at e;(refine aT e ?_);exact tL rfl) k2;have Ep:dN.Ns ah.locals _:=let ⟨o,es,ep,e,r⟩:=el;(eJ o es ep (k2 _ _ (by rw[hL];exact Fh) e) r);refine Ic (s:={s with heap:=dN,toks:=tk}) pf kM.1 kM.2.1 (by decide) Ep (vx:=.ref x) (v:=.str m tm) rfl rfl ?_;refine UN (s:={s with heap:=dN,toks:=tk}) b2.k FO.toFaultMore jg FO.n1 λpv d z9 oy gd dx k3 Zu Fc G0=>?_;obtain uR: s.heap.get? d=none:=by
  induction q:s.heap.get? d with
  |none=>rfl
  |some o =>
   have af:=k2 _ _ dx (keep _ _ q);obtain gd:dN.get? d=none:=gd;rw[gd]at af;exact nS af
 refine h pv d t' z9 oy (λb o hb e=>k3 b o hb (k2 b o hb (keep b o e))) uR dx Zu Fc ?_;have af:s.heap.objs.size<=h₀.objs.size:=by
  refine jI el ?_;rintro o _ _ e _;rw[hL]at e;exact ky (jD e)
 exact bC af (bC F7 G0)
theorem QS (FO:FaultAll K)(ba:jc K s.heap)(oD:A.depth+30<=900){x t:ax}{m:ak}{tm:Tok}{aq:List az}(hr:aq=[]\/∃i u,aq=[.int i u])(hN:N0<=x)(hx:s.heap.get? x=some (fI t))
 (h:∀h' d t' es k tk,(∀b o,b≠x->s.heap.get? b=some o->h'.get? b=some o)->s.heap.get? d=none->d≠x->h'.get? x=some {fI t' with dict:=some d} ->
  h'.get? d=some (dictOf es k)->(∃s t,lookIn "message" (dictOf es k)=some (some (.str s t)))->(∃i u,lookIn "place" (dictOf es k)=some (some (.int i u)))->s.heap.objs.size<=h'.objs.size->R (.ok (.ret .none)) {s with heap:=h',toks:=tk}) :
 codeAny (model au w) A (.call (.ref 140) ⟨.ref x::.str m tm::aq,[]⟩) R s:=by
 refine Bc FO.sO.ex ?_;rintro oc od fd iU f1 f2 f3 f4 f5 f6 f7 f8 f9 _;refine cy (IP FO.sO ba.k f1) ?_;rintro ds d1 d2 hb;obtain nH: ∃u,ds=[.int 0 u]:=by
  have af:=d2 s.heap (λZ=>0) 0;rw[Y3]at af;refine cj af.i1 ?_;rintro y r e1 ⟨u,rfl⟩ q;(refine ir q.i0 ?_);exact⟨u,e1⟩
 refine oE nH ?_;clear nH;rintro u0 rfl;obtain⟨pi,pu,lB⟩:∃pi pu,BindsTo s fd ⟨.ref x::.str m tm::aq,[]⟩ [(sl "self",.ref x),(sl "message",.str m tm),(sl "place",.int pi pu)]:=by
  refine aG hr ?_ (rp ?_)
  ·clear hr;rintro rfl;exact(d7 0 u0 (hb [.ref x,.str m tm] (dA rfl) (dA rfl)))
  ·clear hr;rintro i u rfl;exact(d7 i u (hb [.ref x,.str m tm,.int i u] (dA rfl) (dA rfl)))
 refine IE (fd:=fd) (body:=nj.body) (binds:=[(sl "self",.ref x),(sl "message",.str m tm),(sl "place",.int pi pu)]) (by show A.depth<1000;lia) (ba.k _ _ f1) rfl ba.lim (codeRec_of ba.k f4) f3 lB
  (by rw[f2];exact Ci cS) (λy hy=>?_) (λh₀ el keep=>?_) (by rw[f2];exact FO.sO.co) (by rw[f2];exact FO.sO.gen) (by rw[f2];exact FO.sO.k)
 ·rw[f2];have af:=kS;unfold bI at af;rw[iY,iY,iY]at af;refine aG (cU.mp hy) ?_ ?_
  ·rintro rfl;exact af.1
  ·rintro hy;refine aG (cU.mp hy) ?_ ?_
   ·rintro rfl;exact af.2.1
   ·rintro hy;refine aG (cU.mp hy) ?_ ?_
    ·rintro rfl;exact af.2.2.1
    ·rintro hy;cases hy
 have pf:=Lu (L:=s.heap.objs.size) FO.sO f2 f6 f7;generalize eo:callEnv fd s.heap.objs.size 140=ah at pf ⊢;have hL:ah.locals=s.heap.objs.size:=by rw[<- eo];rfl
 obtain Fh:=rN (jD hx);have b1:=yJ ba hN (h':=h₀) (λo e=>by rw[hx]at e;(refine aT e ?_);exact tL rfl) λc o Z e=>keep c o e;obtain gg:=keep _ _ hx;refine Hq V0 ?_;rintro p1 p2 p3 p4 p5 p6 p7 p8 p9 iS xa hl;rw[xa];refine cj b1.ns ?_;rintro mg mb g1 g2 g3;rw[<- hL]at el;obtain mf: Kept (model au w) (.ref 119) h₀:=by
  refine ub FO.qN.ex ?_;rintro NN iA M8 LU g1 _;exact(aP (.frame) (.inl rfl) ((rZ (part:=none) (b1.k _ _ g1)).andThen .now))
 refine Jk (s:={s with heap:=h₀,toks:=_}) pf hl (cv:=.ref 122) (f:=.ref 119) (vx:=.ref x) (vm:=.str m tm) (λQ hq=>Bh pf.k (by rw[pf.kO];exact kS.2.2.2) (loadGlobal_global (by rw[pf.g];exact g1) (mg_of b1.k g1 FO.me) hq))
  (λQ pl hq=>method_cls (s:={s with heap:=h₀,toks:=_}) b1.k FO.ga (cls_value (s:={s with heap:=h₀,toks:=_}) b1.k FO.rd FO.fc rfl (hq _))) mf kS.1 kS.2.1 el rfl rfl λtk=>?_
 refine tS (QO (s:={s with heap:=h₀,toks:=tk}) FO b1 (by show A.depth+1+20<=900;lia) hN gg λdN d t' FL oy k2 gd dx jg pJ F7=>?_);obtain b2:= yJ b1 hN (λo e=>by rw[gg]at e;(refine aT e ?_);exact tL rfl) k2;have Ep:dN.Ns ah.locals _:=let ⟨o,es,ep,e,r⟩:=el;(eJ o es ep (k2 _ _ (by rw[hL];exact Fh) e) r);refine Ic (s:={s with heap:=dN,toks:=FL}) pf kS.1 kS.2.2.1 (by decide) Ep (vx:=.ref x) (v:=.int pi pu) rfl rfl ?_;refine Uh (s:={s with heap:=dN,toks:=FL}) b2.k FO.toFaultMore jg pJ FO.n2 rfl (by simp) (λe he=>?_) (by simp) λpv z9 tk4 k3 Fc G0=>?_
 ·(refine il (iD.mp he) ?_);exact(cF _ _ rfl rfl)
 have uR:s.heap.get? d=none:=by
  induction q:s.heap.get? d with
  |none=>rfl
  |some o =>
   have af:=keep _ _ q;obtain gd:h₀.get? d=none:=gd;rw[gd]at af;exact nS af
 obtain szk: s.heap.objs.size<=h₀.objs.size:=by
  refine jI el ?_;rintro o _ _ e _;rw[hL]at e;exact ky (jD e)
 refine h pv d t' _ _ z9 (λb o hb e=>?_) uR dx ((k3 _ _ (i5 dx) jg)) Fc (d7 m tm rfl) (d7 pi pu rfl) ?_
 ·obtain xa: b≠d:=λz=>by rw[z,uR]at e;exact nS e
  exact k3 b o xa (k2 b o hb (keep b o e))
 ·rw[G0];exact bC szk F7
theorem Rx (FO:FaultAll K)(ba:jc K s.heap)(oD:A.depth+36<=900)(hs:N0<=s.heap.objs.size){m:ak}{tm:Tok}{aq:List az}(hr:aq=[]\/∃i u,aq=[.int i u]){Q:az->aN->Prop}
 (h:∀h' x d t' es k tk,(∀b o,s.heap.get? b=some o->h'.get? b=some o)->s.heap.get? x=none->N0<=x->d≠x->s.heap.get? d=none->h'.get? x=some {fI t' with dict:=some d} ->
  h'.get? d=some (dictOf es k)->(∃s t,lookIn "message" (dictOf es k)=some (some (.str s t)))->(∃i u,lookIn "place" (dictOf es k)=some (some (.int i u)))->Q (.ref x) {s with heap:=h',toks:=tk}) :
 wpAny (model au w) A (call (.ref CF) (.str m tm::aq)) Q E s:=by
 obtain⟨hh,g,dr,tk,os⟩:=s;obtain ue: (.str m tm::aq:List az).length<=sizeLine:=by
  rw[sizeLine_eq];focus(refine aG hr ?_ (rp ?_);clear hr;rintro rfl;rotate_left;clear hr;rintro i u rfl;rotate_left)<;>exact dA rfl
 refine tS (Vk ba.k FO.toFaultOk ?_ ue);have kk:∀b o,hh.get? b=some o->((hh.push {cls:=.type "tuple",data:=.seq (.str m tm::aq:List az).toArray}).push (fI hh.objs.size)).get? b=some o:=λb o e=>dF _ (dF _ e);obtain EK: ((hh.push {cls:=.type "tuple",data:=.seq (.str m tm::aq:List az).toArray}).push (fI hh.objs.size)).get? (hh.objs.size+1)=some (fI hh.objs.size):=by
  obtain af: (hh.push {cls:=.type "tuple",data:=.seq (.str m tm::aq:List az).toArray}).objs.size=hh.objs.size+1:=tK ..;rw[<- af];exact hW _ rfl
 have u: (lZ "type.__call__" ⟨.ref CF::.str m tm::aq,[]⟩).weight=1:=by
  skip;obtain h1: (lZ "type.__call__" ⟨.ref CF::.str m tm::aq,[]⟩).frames=0:=by rfl
  obtain h2:(lZ "type.__call__" ⟨.ref CF::.str m tm::aq,[]⟩).isCreation=true:=rfl;obtain h3: (lZ "type.__call__" ⟨.ref CF::.str m tm::aq,[]⟩).isGuard=false:=by show guardIds.contains "type.__call__"=false;decide +kernel
  obtain h4:(lZ "type.__call__" ⟨.ref CF::.str m tm::aq,[]⟩).isCaller=false:=rfl;rw[h1,h2,h3,h4];rfl
 refine QS (s:=⟨_,g,dr,tk,os⟩) FO (ba.keep (λa o Z Z e=>kk a o e) (λZ e=>kk _ _ e) (λb o e Z=>kk b o e)) (by show A.depth+_+30<=900;rw[u];lia) hr (tG hs) EK λh' d t' es k oy k1 gd dx hx hd h1 h2 sz=>?_;obtain gx:=get_none (iF _);obtain uR: hh.get? d=none:=by
  induction q:hh.get? d with
  |none=>rfl
  |some o =>
   obtain af:= kk _ _ q;obtain gd:((hh.push {cls:=.type "tuple",data:=.seq (.str m tm::aq:List az).toArray}).push (fI hh.objs.size)).get? d=none:=gd;rw[gd]at af;exact nS af
 exact⟨rfl,h h' (hh.objs.size+1) d t' es k oy (λb o e=>k1 b o (λz=>by rw[z,gx]at e;exact nS e) (kk b o e)) gx (tG hs) dx uR hx hd h1 h2⟩
end
structure OkF (au:cB)(w:bw)(K:bz)(P:PE)(Γ:ax->Option (Nat->List V->Mo V)):Prop extends Ok au w K P Γ where
 fl:FaultAll K
 fc:P.fault=CF
section
variable {M:gT}{A:bZ}{E:az->aN->Prop}{ah:a9}{K:bz}
theorem Pz (FO:FaultOk K)(h:wpAny M A x (λv eL=>∃e oe,v=.ref e/\K.In eL.heap/\eL.heap.get? e=some oe/\oe.cls=.ref CF/\(∃vs,oe.data=.fields vs/\vs[1]?=some .none)/\wpAny M A (raiseNew (.ref e):Sem j9) Q E eL) E s):wpAny M A (raiseStmt ah (some x) none) Q E s:=by
 obtain tv: (dn CF::hM).contains (.type "BaseException")=true:=by simp[hM]
 unfold raiseStmt;refine aF (ql h (λv eL bU=>?_) λZ Z x=>x);refine Jw bU ?_;clear bU;rintro e oe rfl X he hc ⟨vs,hd,h1⟩ hE;refine n7.casesOn FO.cls ?_;rintro nm q N bs sn sub ab kZ dd k0 k1 k2 k3 k5 hK;obtain hC:= X _ _ hK;clear X;obtain⟨hp,g,d,tk,os⟩:=eL;obtain cC: ∀(Q:Unit->aN->Prop),Q () ⟨hp,g,d,tk,os⟩->wpAny M A (setFlight (.ref e) none) Q E ⟨hp,g,d,tk,os⟩:=λQ hq=>by
  unfold setFlight;refine aF (jE he hd h1 ?_);rewrite[if_neg (by decide)];exact bq hq
 repeat(first|with_reducible refine aF (cC _ ?_)|with_reducible refine pX he ?_|with_reducible refine pX hC ?_|(with_reducible refine vh hC ?_;rewrite[tv])|rewrite[hc]|wp_step)
 exact hE
end
noncomputable def Made (g h:bf)(x:ax):Prop:=∃d t es k,(∀b o,g.get? b=some o->h.get? b=some o)/\g.get? x=none/\N0<=x/\h.get? x=some {fI t with dict:=some d}/\d≠x/\h.get? d=some (dictOf es k) /\
 (∃s t,lookIn "message" (dictOf es k)=some (some (.str s t)))/\(∃i u,lookIn "place" (dictOf es k)=some (some (.int i u)))
theorem Made.ZI (m:Made g h x)(hg:∀c,g.get? c=none->eM.get? c=none):et eM L h (.ref x):=by
 refine Hu m ?_;clear m;rintro d t es k h1 h2 h3 h4 h5 h6 h7 h8;exact⟨x,_,_,d,_,_,_,rfl,h3,hg _ h2,h4,rfl,rfl,rfl,h6,rfl,h7,h8,(cF 0 (.none) rfl (.nil)),.inl rfl⟩
theorem Made.Wy (m:Made g h x)(hg:∀c,g.get? c=none->eM.get? c=none)(c:Ch g n (.ref b)):et eM L (h.update x (mQ (·.setIfInBounds 2 (.ref b)))) (.ref x)/\(∀c o,g.get? c=some o->(h.update x (mQ (·.setIfInBounds 2 (.ref b)))).get? c=some o):=by
 refine Hu m ?_;rintro d t es k h1 h2 h3 h4 h5 h6 h7 h8;obtain kk:∀c o,g.get? c=some o->(h.update x (mQ (·.setIfInBounds 2 (.ref b)))).get? c=some o:=λc o e=>by
  obtain af: c≠x:=λz=>by rw[z,h2]at e;exact nS e
  rw[kr _ _ (i5 af)];exact h1 _ _ e
 obtain hx:= ku (mQ (·.setIfInBounds 2 (.ref b))) h4 rfl;obtain hd:= (kr h (mQ (·.setIfInBounds 2 (.ref b))) (i5 h5)).trans h6;exact⟨⟨x,_,_,d,_,_,_,rfl,h3,hg _ h2,hx,rfl,rfl,rfl,hd,rfl,h7,h8,(cF n (.ref b) rfl (c.keep (.grow kk))),.inl rfl⟩,kk⟩
section
variable {au:cB}{w:bw}{A:bZ}{E:az->aN->Prop}{ah:a9}{K:bz}{s:aN}
theorem O5:entryFor table "proto.unchain"=some Builtin.«proto.unchain»:=entryFor_of_fast (by kernel_rfl)
theorem Hn:(lZ "proto.unchain" a).quiet=true:=Hx _ (by decide +kernel)
theorem Ch.inv:∀{n} {v},Ch h (n+1) v->∃b o vs u,v=.ref b/\h.get? b=some o/\o.data=.fields vs/\vs[2]?=some u/\Ch h n u
 |_,_,.cons e c d q r=>(oP _ _ _ _ rfl e d q r)
theorem B0 (kk:∀b o,g.get? b=some o->s.heap.get? b=some o)(hx:g.get? x=none)(hR:R (.ok (.ret .none)) s):∀(n m:Nat) (o zX:az) (t:Bool),
 Ch g (n+1) o->Ch g m zX->n+1<=m->codeAny (model au w) A (.builtin "proto.unchain" ⟨[.ref x,o,zX,.bool t],[]⟩) R s
 |n,m,o,zX,t,co,cs,hm=>by
  refine jU co.inv ?_;clear co;rintro b ob vs u rfl e1 e2 e3 cu;refine codeAny_builtin O5 ?_;unfold Builtin.«proto.unchain»;skip;refine aF (jE (kk _ _ e1) e2 e3 ?_);induction n using eO with
  |zero =>
   cases cu;rw[if_pos (by decide)];exact bq hR
  |succ n =>
   refine jU cu.inv ?_;rintro b2 o2 M0 u2 rfl e4 e5 e6 cu2;obtain nx: b2≠x:=λz=>by rw[z,hx]at e4;exact nS e4
   rw[if_neg (show ¬((dn b2==fQ)=true) from xS)];rw[if_neg (show ¬((dn b2==dn x)=true) from λz=>nx (by simpa using z))];by_cases hs:(dn b2==zX)=true
   ·rw[if_pos hs];exact aF (wpAny_rule (bq hR))
   ·rw[if_neg hs];obtain⟨m,rfl⟩:∃k,m=k+1:=⟨m-1,by lia⟩;refine jU cs.inv ?_;rintro b3 o3 vs3 u3 rfl e7 e8 e9 YF;induction t with
    |false =>
     refine aF (bq ?_);exact bq ⟨Hn,B0 kk hx hR n (m+1) _ _ _ cu cs (by lia)⟩
    |true =>
     refine aF (jE (kk _ _ e7) e8 e9 ?_);exact bq ⟨Hn,B0 kk hx hR n m _ _ _ cu YF (by lia)⟩
theorem Qd {x b:ax}{g:bf}{n:Nat}{Q:j9->aN->Prop}(hh:A.handled=some (.ref b))(kk:∀b o,g.get? b=some o->s.heap.get? b=some o)(hx:g.get? x=none)(c:Ch g (n+1) (.ref b))
 {ox:cI} {vx:Array az} (ex:s.heap.get? x=some ox) (dx:ox.data=.fields vx) (sx:2<vx.size)
 (h:E (.ref x) {s with heap:=s.heap.update x (mQ (·.setIfInBounds 2 (.ref b)))}):wpAny (model au w) A (raiseNew (.ref x):Sem j9) Q E s:=by
 obtain nb: b≠x:=λz=>by
  refine oS c.inv ?_;rintro b' o' _ _ h1 h2 _;cases h1;rw[z,hx]at h2;exact nS h2
 skip;refine aF (wpAny_handled ?_);rw[hh];dsimp only;rw[if_pos (show(dn b != dn x)=true from by simpa using nb)];obtain up:=rL (a:=x) (i:=2) (x:=.ref b) (Q:=λZ s'=>wpAny (model au w) A (throw (.ref x):Sem j9) Q E s') ex dx sx (wpAny_throw h);refine aF (fy (wpAny_runValue (B0 kk hx ?_ n (n+1) _ _ _ c c (bc _))));exact aF up
end
section
variable {au:cB}{w:bw}{A:bZ}{E:az->aN->Prop}{ah:a9}{K:bz}{s:aN}
theorem SP (FO:FaultOk K)(X:K.In h):Kept (model au w) (.ref CF) h:=by
 refine n7.casesOn FO.cls ?_;rintro nm q N bs sn sub ab kZ dd k0 k1 k2 k3 k5 hK;obtain hC:= X _ _ hK;exact(aP (.machine) (.inr (.inl rfl)) (λA Q E s k q=>by
  obtain⟨hh,g',d',t',YX⟩:=s;exact wpAny_keeperOf_exc (k _ _ hC) q))
theorem HO (FO:FaultAll K){c:ak}{p nv pos:aZ}{av:List Expr}{Q:j9->aN->Prop}(hn:noStar av=true)
 (h:wpAny (model au w) A (eval (.Name c p) ah) (λfv eL=>fv=.ref CF/\wpAny (model au w) A (spliced (backTo nv (starEach av ah))) (λvs jL =>
  (∃m tm aq,vs=.str m tm::aq/\(aq=[]\/∃i u,aq=[.int i u]))/\jc K jL.heap/\N0<=jL.heap.objs.size/\A.depth+36<=900 /\
   ∀h' x tk,Made jL.heap h' x->wpAny (model au w) A (raiseNew (.ref x):Sem j9) Q E {jL with heap:=h',toks:=tk}) E eL) E s) :
 wpAny (model au w) A (exec (.Raise (some (.Call (.Name c p) av [] nv)) none pos) ah) Q E s:=by
 rw[arm_exec_Raise];obtain e2:eval (.Call (.Name c p) av [] nv) ah=(eval (.Name c p) ah>>=λfv=>callWith nv fv [] (backTo nv (starEach av ah)) []):=rfl;refine aF (jl ?_);refine Pz FO.toFaultOk (aF ?_);rw[e2];refine aF (ql h (λfv eL bU=>?_) λZ Z x=>x);refine oA bU ?_;clear bU;rintro rfl bU;refine callWith_of (P:=Kept (model au w) (.ref CF)) (by rw[vD hn];rfl) (λh x=>x) (Bp (vD hn) (ql bU (λvs jL dN=>?_) λZ Z x=>x));refine zo dN ?_;clear dN;rintro⟨m,tm,aq,rfl,hr⟩ ba hs oD dN;refine⟨SP FO.toFaultOk ba.k,?_⟩;refine Rx FO ba oD hs hr λh' x d t' es k tk kk hx hN gX xG gx gd hm hp=>aF (jl (bq ?_));obtain md: Made jL.heap h' x:=⟨d,t',es,k,kk,hx,hN,gx,gX,gd,hm,hp⟩;exact⟨x,_,rfl,ba.k.keeps kk,gx,rfl,(aP _ rfl rfl),dN h' x tk md⟩
end
section
variable {au:cB}{w:bw}{K:bz}{P:PE}{Γ:ax->Option (Nat->List V->Mo V)}{sf:Jb->Mo An}{A:bZ}{fs:List a9}{L:ax}{ah:a9}{U:Fm}{ρ:Nat->ax}{σ:Sg}{s:aN}
theorem Px (O:OkF au w K P Γ)(e:jV P cv=true):cv=.cls CF:=by
 induction cv using Zq.V.casesOn<;>first|(rw[show _=CF from(eS e).trans O.fc])|exact fT e
theorem PU (e:ml vs σ=some (r,aj)):r=.exc/\aj=σ/\((∃a,vs=[.str a])\/∃a b,vs=[.str a,.int b]):=by
 induction vs using aQ with
 |nil=>exact nS e
 |cons a l =>
  induction a using V.casesOn with
  |str a =>
   induction l using aQ with
   |nil=>(refine dX e ?_;clear e r aj);exact(dg rfl rfl (.inl ⟨_,rfl⟩))
   |cons b l =>
    induction b using V.casesOn with
    |int b =>
     induction l using aQ with
     |nil=>(refine dX e ?_;clear e r aj);exact⟨rfl,rfl,.inr (d7 _ _ rfl)⟩
     |cons=>exact nS e
    |_=>exact nS e
  |_=>exact nS e
theorem QW (I:Ih au w K sf)(O:OkF au w K P Γ)(c:ak)(p nv pos:aZ)(av:List Expr)(cx:Ctx w.params K A fs L ah U ρ σ s.heap) :
 aL (model au w) A w.params K fs L [ah.locals] (aI fs) ρ σ s (cX ah U) (eV P sf U (.Raise (some (.Call (.Name c p) av [] nv)) none pos)) (exec (.Raise (some (.Call (.Name c p) av [] nv)) none pos) ah) (RS ah U):=by
 obtain e1: eV P sf U (.Raise (some (.Call (.Name c p) av [] nv)) none pos)=(match noStar av with
  |false=>no
  |true=>bd (sE sf U (.Name c p)) λcv=>(match jV P cv with
   |false=>no
   |true=>bd (eZ sf U av) λvs=>ml vs)):=rfl
 rw[e1];induction hn:noStar av with
 |false=>exact .no
 |true =>
  intro r aj e Q E hq;refine HO O.fl hn ?_;rcases dM (show bd (sE sf U (.Name c p)) (λcv=>(match jV P cv with
   |false=>no
   |true=>bd (eZ sf U av) λvs=>ml vs)) σ=some (r,aj) from e) with ⟨e1,rfl⟩|⟨cv,bj,e1,e2⟩
  ·refine dR I _ cx _ _ e1 _ E λbQ s1 w1 bh g1 g2=>⟨λa h=>(nC Zq.Rs.ctorIdx h rfl),λZ e he Z=>?_⟩;exact(hq bQ s1 w1 bh.wide g1 g2).2 rfl e he (cx.step w1 bh).e.cW
  refine dR I _ cx _ _ e1 _ E λbQ s1 w1 bh g1 g2=>⟨λa h fv hf=>?_,λh=>(nC Zq.Rs.ctorIdx h rfl)⟩;(revert hf;refine dI h ?_;clear h a;intro hf);obtain c1:=cx.step w1 bh;induction hF:jV P cv with
  |false=>rw[hF]at e2;exact nS e2
  |true =>
   rw[hF]at e2;clear e1;obtain rfl:=Px O hF;refine⟨hf,?_⟩;refine aG (dM (show bd (eZ sf U av) (λvs=>ml vs) bj=some (r,aj) from e2)) (kA ?_) (cK ?_)
   ·rintro e3 rfl;refine qP I av nv c1 _ _ e3 _ E λbY s2 w2 bF g3 g4=>⟨λa h=>(nC Zq.Rs.ctorIdx h rfl),λZ e he Z=>?_⟩;exact(hq bY s2 w2 (bh.trans bF).wide (g3.trans g1) (g4.trans g2)).2 rfl e (he.sub λZ=>bh.nu) (c1.step w2 bF).e.cW
   ·rintro vs aY e3 e4;refine fp (PU e4) ?_;rintro rfl rfl rk;refine qP I av nv c1 _ _ e3 _ E λbY s2 w2 bF g3 g4=>⟨λa h xs hx=>?_,λh=>(nC Zq.Rs.ctorIdx h rfl)⟩;(revert hx;refine dI h ?_;clear h a;intro hx);obtain c2:= c1.step w2 bF;have st:=bh.trans bF;refine(Vr ?_ w2.ba (w2.sz cx.rm.ne) ?_ (λh' x tk md=>wpAny_raiseNew_none cx.rm.hn ?_))
    ·refine aG rk (kE ?_) (rp ?_)
     ·rintro a rfl;refine cj hx ?_;clear hx;rintro x xs rfl ⟨t,rfl⟩ h2;exact(eJ _ _ _ rfl (.inl h2))
     ·clear rk;rintro a b rfl;refine Q2 hx ?_;clear hx;rintro x xs rfl ⟨t,rfl⟩ x2 xs2 rfl ⟨t2,rfl⟩ h2;obtain rfl:=h2;exact⟨_,_,_,rfl,.inr (d7 _ _ rfl)⟩
    ·obtain af:= cx.rm.dep;lia
    ·have kk:=md.choose_spec.choose_spec.choose_spec.choose_spec.1;obtain w':=w2.grow kk;obtain bD:bL [] (aI fs) bY aj.length s2.heap bY aj.length h':=.grow kk;exact(hq bY {s2 with heap:=h',toks:=tk} w' (st.trans bD).wide (g3.trans g1) (g4.trans g2)).2 rfl _ (md.ZI λZ=>st.nu) (c2.step w' bD).e.cW
end
theorem yu {h:bf}(n:h.Ns a m)(ho:h.get? a=some o):lookIn x o=some (some v)↔m x=some v:=by
 refine mh n ?_;clear n;rintro o' es ep h1 h2 h3 h4;rw[ho]at h1;(revert h2;refine aT h1 ?_;clear h1 o';intro h2);rw[<- h4 x];unfold lookIn nsFind findBy;rw[h2];dsimp only;rw[<- Array.find?_toList];induction hq:es.toList.find? (·.key.isStr x) with
 |some e=>simp
 |none =>
  dsimp only;split<;>simp
section
variable {g h h':bf}{L a:ax}{e:az}{m m':ak->Option az}
theorem et.names (fl:et g L h e)(hn:h.Ns a m)(lP:h'.Ns a m')(sb:kx a h h')(m1:m' "message"=m "message")(m2:m' "place"=m "place"):et g L h' e:=by
 refine et.casesOn fl ?_;rintro b o vs dx es k od h1 h0 h2 h3 h4 h5 h6 h7 h8 h9 lL jO pI;refine dG (id hn) ?_;rintro oa ea ka q1 q2 _;have nf:∀c oc xs,h.get? c=some oc->oc.data=.fields xs->h'.get? c=some oc:=λc oc xs e1 e2=>by
  refine(sb.2 c λz=>?_).trans e1;clear hn lP sb;subst z;rw[q1]at e1;(revert e2;refine aT e1 ?_;intro e2);rw[q2]at e2;exact nC jB e2 rfl
 obtain kc: mj h h':=λc oc xs e1 e2 e3=>(dp oc xs (nf c oc xs e1 e3) e2 e3 rfl);obtain hd: ∃fu k' iA,h'.get? dx=some iA/\iA.data=.dict fu k'/\(∃s t,lookIn "message" iA=some (some (.str s t)))/\(∃i u,lookIn "place" iA=some (some (.int i u))):=by
  by_cases z:dx=a
  ·clear q1 sb;subst z;refine dG (id lP) ?_;rintro oa' Zl Z1 r1 r2 _;refine(oW Zl Z1 oa' r1 r2 ?_ ?_)
   ·refine fE h9 ?_;rintro s t q;exact(d7 s t ((yu lP r1).mpr (m1.trans ((yu hn h7).mp q))))
   ·refine fE lL ?_;rintro s t q;exact(d7 s t ((yu lP r1).mpr (m2.trans ((yu hn h7).mp q))))
  ·exact(oW es k od ((sb.2 dx z).trans h7) h8 h9 lL)
 refine mh hd ?_;rintro fu k' iA z1 z2 z3 z4;refine⟨b,o,vs,dx,fu,k',iA,h1,h0,h2,nf _ _ _ h3 h6,h4,h5,h6,z1,z2,z3,z4,(let ⟨n,v,q,c⟩:=jO;(cF n v q (c.keep kc))),pI.imp id ?_⟩;rintro⟨T,oT,ts,p1,p2,p3,p4,p5,p6,p7,p8⟩;exact(vC T oT ts p1 p2 p3 p4 (nf _ _ _ p5 p7) p6 p7 p8)
theorem mA.names (fl:mA g L h e)(hn:h.Ns a m)(lP:h'.Ns a m')(sb:kx a h h')(m1:m' "message"=m "message")(m2:m' "place"=m "place"):mA g L h' e:=by
 refine⟨fl.1.names hn lP sb m1 m2,?_⟩;refine Cs (fl.2) ?_;rintro b o vs T h1 h2 h3 h4;refine dG (id hn) ?_;rintro oa ea ka q1 q2 _;refine⟨b,o,vs,T,h1,(sb.2 b λz=>?_).trans h2,h3,h4⟩;clear hn lP sb;subst z;rw[q1]at h2;(revert q2 q1;refine dP h2 ?_;clear h2 oa;intro q2 q1);rw[q2]at h3;exact nC jB h3 rfl
end
section
variable {M:gT}{A:bZ}{E:az->aN->Prop}{s:aN}{P:bA}{K:bz}{fs:List a9}{ρ:Nat->ax}{σ:Sg}{g:bf}{L:ax}
theorem vW {e:az}{F:Option ax}{Q:Unit->aN->Prop}(w:W P K fs ρ σ s.heap)(fl:mA g L s.heap e) 
 (h:∀h' D,dY g s.heap h' (aI fs) D->(∀L',(F=none\/F=some L')->mA g L' h' e)->Q () {s with heap:=h'}):wpAny M A (setFlight e F) Q E s:=by
 refine Ir fl ?_;clear fl;rintro⟨a,o,vs,dx,es,k,od,rfl,hN,hg,ha,hc,kK,hd,gX,jw,mB,kU,jO,iX⟩ a' o' nJ T' e1 mG dZ pN;cases e1;rw[ha]at mG;(revert dZ;refine aT mG ?_;intro dZ);rw[hd]at dZ;cases dZ;refine aG iX ?_ (yb ?_)
 ·rintro h1;rw[h1]at pN;exact nC oK (jR pN) rfl
 ·rintro T oT ts h1 jz n9 iT hT jd fx h3;have dv:3<ts.size:=by focus(refine aG h3 ?_ ?_;rintro h3;rotate_left;rintro h3;rotate_left)<;>exact(oG.mp h3).1
  skip;refine aF (jE ha hd h1 ?_);rw[if_pos (show(dn T != fQ)=true from by simp)];refine rL hT fx dv ?_;have e2:=dY.set (wo jd) (g:=g) (S:=aI fs) (i:=3) (v:=(F.elim fQ λf=>rawInt f)) n9 jz (w.tR hT fx) hT fx (vM jd);refine aO (yH e2 gX jw) ?_;rintro iA pk j0;obtain pJ:=xU fx (·.setIfInBounds 3 (F.elim fQ λf=>rawInt f));obtain uK:=(kr s.heap (mQ (·.setIfInBounds 3 (F.elim fQ λf=>rawInt f))) iT).trans ha;refine h _ _ e2 λL' GB=>⟨⟨a,o,vs,dx,es,k,iA,rfl,hN,hg,uK,hc,kK,hd,pk,j0.trans jw,?_,?_,(let ⟨n,v,q,c⟩:=jO;(cF n v q (c.keep e2.c))),.inr (vC T _ _ h1 jz n9 iT (ku _ hT (xN pJ)) ((Bt _ _).trans jd) pJ ?_)⟩,a,o,vs,T,rfl,uK,hd,h1⟩
  ·refine fE mB ?_;rintro s' t' q;exact(d7 s' t' ((qg j0).trans q))
  ·refine fE kU ?_;rintro s' t' q;exact(d7 s' t' ((qg j0).trans q))
  ·refine aG GB ?_ ?_
   ·clear GB;clear e2 h uK pJ pk;rintro rfl;left;simp[dv]
   ·clear GB;clear e2 h uK pJ pk;rintro rfl;right;simp[dv]
theorem Qb {α:Type}{e:az}{ah:a9}{Xx:String}{Q:α->aN->Prop}(w:W P K fs ρ σ s.heap)(ef:ah.frame=some L)(fl:mA g L s.heap e)
 (h:∀h' D,dY g s.heap h' (aI fs) D->mA g L h' e->E e {s with heap:=h'}):wpAny M A (PySem.passOn Xx e ah:Sem α) Q E s:=by
 skip;refine Cs (fl.2) ?_;rintro a o vs T rfl h2 h3 h4;refine aF (jE h2 h3 h4 ?_);rw[if_neg (show ¬((dn T==fQ)=true) from xS)];rw[ef];exact aF (vW w fl λh' D ef oq=>wpAny_throw (h h' D ef (oq L (.inr rfl))))
end
structure OkT (au:cB)(w:bw)(K:bz)(P:PE)(Γ:ax->Option (Nat->List V->Mo V)):Prop extends OkF au w K P Γ where
 ga:findIn K (.ref CF) "__getattribute__"=some (some (.builtin "BaseException.__getattribute__"))
 gt:findIn K (.ref CF) "__getattr__"=some none
structure Hd (P:bA)(K:bz)(fs:List a9)(ah:a9)(U:Fm)(cP:Nat->ax)(cQ:Nat)(g:bf)(ρ:Nat->ax)(σ:Sg)(h:bf):Prop where
 w:W P K fs ρ σ h
 st:bL [ah.locals] (aI fs) cP cQ g ρ σ.length h
 e:eK h ρ σ.length (cW U) ah
section
variable {P:bA}{K:bz}{fs:List a9}{ah:a9}{U:Fm}{cP:Nat->ax}{cQ:Nat}{g:bf}{ρ:Nat->ax}{σ:Sg}{h h':bf}
theorem Hd.kN (x:Hd P K fs ah U cP cQ g ρ σ h)(ef:dY g h h' (aI fs) D):Hd P K fs ah U cP cQ g ρ σ h' :=
 ⟨ef.w x.w,ef.tc x.st λb m=>.inr m,eK.kN x.e ef (ef.im x.w) λZ m=>(x.w.fr.ne m).1⟩
theorem Hd.grow (x:Hd P K fs ah U cP cQ g ρ σ h)(k:∀b o,h.get? b=some o->h'.get? b=some o):Hd P K fs ah U cP cQ g ρ σ h' :=
 ⟨x.w.grow k,x.st.trans (.grow k),x.e.tc (F:=aI fs) x.w (.grow k) λZ h=>h⟩
theorem Hd.loc (x:Hd P K fs ah U cP cQ g ρ σ h)(hn:h.Ns ah.locals m)(hm:∀y v,lk y (cW U).loc=some v->∃z,m y=some z/\VR h ρ σ.length v z)(lP:h'.Ns ah.locals m')(sb:kx ah.locals h h')(k:∀y v,lk y (cW U).loc=some v->m' y=m y):Hd P K fs ah U cP cQ g ρ σ h':=by
 refine dG (id hn) ?_;rintro o es ep ho hd _;refine dG (id lP) ?_;rintro o' fu Oj mC dZ _;refine⟨x.w.loc x.e.lo x.e.ap ho hd mC dZ sb,x.st.trans (.at sb ⟨_,mC⟩ (.head _)),?_⟩;obtain e:=x.e;refine⟨e.k,e.g,e.b,(aP m' lP (λy v q=>?_)),e.lo,e.ap,e.kl,e.kg,e.kc,e.kk,e.nm⟩;refine aO (hm y v q) ?_;rintro z h1 h2;refine(aP z ((k y v q).trans h1) (h2.kp ⟨bc _,λZ Z=>rfl,λb o q im=>(sb.2 b λz=>?_).trans q,λZ Z q=>(sb.2 _ λz=>absurd (z▸x.e.lo) (by decide)).trans q⟩));subst z;rw[ho]at q;cases q;unfold dE at im;rw[hd]at im;simp at im
end
set_option tactic.hygienic true in
theorem DB (h:lk y (cW U).loc=some v)(hf:U.ro.any (bg f)=false):y≠f:=by
 intro z;subst z;unfold cW at h;obtain af: ∀(l:List (ak×V)),lk y (l.filter λp=>U.ro.any (bg p.1))=none:=λl=>by
  induction l with
  |nil=>rfl
  |cons p l ih =>
   rw[oN];split
   ·rename_i hp;rw[fA,if_neg (λz=>by clear h ih;subst z;rw[hf]at hp;exact fT hp)];exact ih
   ·exact ih
 rw[af]at h;exact nS h
section
variable {au:cB}{w:bw}{A:bZ}{E:az->aN->Prop}{s:aN}{K:bz}{x:ax}{ox:cI}{od:Option cI}{name:ak}{expr:Bool}{Q:az->aN->Prop}
open Builtin.ObjectAttr in
theorem QD {v:az}(O:FaultOk K)(X:K.In s.heap)(I:InstAt s.heap x ox CF od)(ga:findIn K (.ref CF) "__getattribute__"=some (some (.builtin "BaseException.__getattribute__")))(gt:findIn K (.ref CF) "__getattr__"=some none)
 (hf:findObj K CF od name=some (.value v)) (hh:handedIn v=true) (h:Q v {s with toks:=s.toks+1}):wpAny (model au w) A (getAttr (.ref x) name expr) Q E s:=by
 obtain⟨hp,g,d,t,os⟩:=s;obtain L0:= I.type (M:=model au w);obtain L1:= looks_findIn (M:=model au w) X ga;obtain L2:= looks_findIn (M:=model au w) X gt;obtain L3:= looks_find (M:=model au w) X I hf;refine n7.casesOn O.cls ?_;rintro nm q N bs sn sub ab kZ dd k0 k1 k2 k3 k5 hK;obtain hC:= X _ _ hK;obtain f3:= F.attr_Exception.ga.bind (.ref x);obtain GC: (expr&&onTheHeap (yg "BaseException.__getattribute__"))=false:=by induction expr<;>rfl
 obtain jg: (yg "BaseException.__getattribute__" == yg "object.__getattribute__")=false:=by decide +kernel
 obtain gg: (onTheHeap (dn CF)&&yg "BaseException.__getattribute__" == yg "object.__getattribute__")=false:=by rw[jg];rfl
 unfold getAttr getAttrBy;refine aF (yB (fy (aF (L0.at (aF (L1.at ?_))))));dsimp only;rw[gg,if_neg (by decide)];unfold getAttrByItsOwn hookBefore;refine aF ?_;rw[if_pos (show onTheHeap (dn CF)=true from rfl)];refine L2.at ?_;unfold callGetattribute;rw[if_neg (by rw[GC];decide)];unfold boundAndCalled;refine aF (wpAny_attempt (fy ?_));rw[f3,pure_bind];dsimp only[vj,vt];refine tS (HD F.attr_Exception.ga.plain F.entry_bexc_ga ?_);obtain hk: builtinKind "BaseException.__getattribute__"=some .slot:=by decide +kernel
 obtain T7: splitId "BaseException.__getattribute__"=some ("BaseException", "__getattribute__"):=by decide +kernel
 obtain tv: (dn CF::hM).contains (.type "BaseException")=true:=by simp[hM]
 obtain ha:= F.args_bexc_ga (.ref x) (.str name t);have hx:=I.at_;have hc:=I.cls;unfold checkBuiltinCall;rw[hk,T7];dsimp only;refine aF ?_;unfold isInstance
 repeat(first|with_reducible refine L3.at ?_|(with_reducible refine pX hx ?_;(rewrite[hc];try(with_reducible rfl)))|(with_reducible refine vh hC ?_;(rewrite[tv];try(with_reducible rfl)))|wp_step)
 show wpAny _ _ (handedOut v) _ _ _;rw[handedOut_of hh];exact bq h
end
section
variable {au:cB}{w:bw}{K:bz}{P:PE}{Γ:ax->Option (Nat->List V->Mo V)}{A:bZ}{E:az->aN->Prop}{fs:List a9}{ah:a9}{U:Fm}{ρ:Nat->ax}{n:Nat}{σ:Sg}{s:aN}
theorem B8 (PO:qS P K)(hw:W w.params K fs ρ σ s.heap)(e:eK s.heap ρ n U ah)(hk:bI c U.sc=some .globalImplicit)(hv:P.glob c=some (.cls C))(h:Q (.ref C) s):wpAny (model au w) A (eval (.Name c pos) ah) Q E s:=by
 refine aO (PO.glob c _ hv) ?_;rintro y h1 h2;obtain h2:=h2 s.heap ρ σ.length hw.ba.k;subst h2;refine cj hw.ba.ns ?_;rintro mg mb g1 g2 g3;refine Bh e.k (e.kg c hk) ?_ (e.nm c _ hk).1;refine aG h1 ?_ (tx ?_)
 ·rintro h1;exact loadGlobal_global (by rw[e.g];exact g1) (mg_of hw.ba.k g1 h1) h
 ·rintro h1 h3 h4;exact loadGlobal_builtin (by rw[e.g];exact g1) (mg_none_of hw.ba.k g1 h1) (by rw[e.b];exact g2) ((g3 c h4).trans h3) h
theorem IW (e:eK s.heap ρ n U ah)(hk:bI x U.sc=some .local)(hn:s.heap.Ns ah.locals m)(hm:m x=some v)(h:Q v s):wpAny (model au w) A (eval (.Name x pos) ah) Q E s:=vU (Bg e.k (e.kl x hk) hn hm h) (e.nm x _ hk).1
theorem HI {f a:ak}{p q:aZ}{m:ak->Option az}{x:ax}{v:az}{o od:cI}{vs:Array az}{dx:ax}{Q:az->aN->Prop}(O:OkT au w K P Γ)(X:K.In s.heap)(e:eK s.heap ρ n U ah)(hk:bI f U.sc=some .local)(hn:s.heap.Ns ah.locals m)
 (hm:m f=some (.ref x)) (ho:s.heap.get? x=some o) (hc:o.cls=.ref CF) (hd:o.data=.fields vs) (hx:o.dict=some dx) (gX:s.heap.get? dx=some od) (hf:findIn K (.ref CF) a=some none) (hl:lookIn a od=some (some v)) (hh:handedIn v=true)
 (h:∀tk,Q v {s with toks:=tk}):wpAny (model au w) A (eval (.Attribute (.Name f p) a q) ah) Q E s:=by
 rw[arm_eval_Attribute,C6 (by rfl)];refine aF (IW e hk hn hm ?_);refine aF (jl ?_);obtain I: InstAt s.heap x o CF (some od):=⟨ho,hc,by unfold notCls;rw[hd],by rw[hx];exact gX⟩;refine cy (yY O.fl.toFaultOk) ?_;rintro cd c1 c2 _;obtain xt: findObj K CF (some od) a=some (.value v):=by
  unfold findObj;rw[c1,jC,hf,jC,jC,jC];dsimp only;unfold Iy;rw[if_pos c2];dsimp only;rw[hl];rfl
 refine aF (fy (QD O.fl.toFaultOk X I O.ga O.gt xt hh ?_));exact aF (Bj (bq (h _)))
end
theorem Sb {M:gT}{A:bZ}{E:az->aN->Prop}{s:aN}{ah:a9}{n:ak}{pos:aZ}{m:ak->Option az}{Q:Unit->aN->Prop}(hl:ah.kindOf n=some .local)(hn:s.heap.Ns ah.locals m)
 (hp:(ah.scope.kind==.class||(ah.scope.kind==.module&&ah.locals != ah.globals))=false)
 (h:∀bU EE h' m',bU.Ns ah.locals EE->(∀y,y≠n->EE y=m y)->kx ah.locals s.heap bU->h'.Ns ah.locals m'->(∀y,y≠n->m' y=EE y)->kx ah.locals bU h'->Q () {s with heap:=h',toks:=s.toks+1}) :
 wpAny M A (do bindName ah n .none;unbindBehindTheSuite ah n pos) Q E s:=by
 refine aF (wpAny_bindName (Be hl hn (λbU LO mv=>?_) hp));skip;refine wpAny_onRaise ?_;refine wpAny_unbindName_local (v:=.none) hl LO (if_pos rfl) hp λdN u VJ DS=>?_;exact h bU _ dN _ LO (λy hy=>if_neg hy) mv VJ (λy hy=>if_neg hy) DS
section
variable {au:cB}{w:bw}{K:bz}{P:PE}{Γ:ax->Option (Nat->List V->Mo V)}{sf:Jb->Mo An}{A:bZ}{fs:List a9}{L:ax}{ah:a9}{U:Fm}{cP ρ:Nat->ax}{cQ:Nat}{g:bf}{σ:Sg}{s:aN}
 {Q:j9->aN->Prop} {E:az->aN->Prop}
theorem PC (O:OkT au w K P Γ)(eW:A.frames=some fs)(hh:∃f r,fs=f::r/\f.frame=some L)(ef:ah.frame=some L){ev:az}{c:ak}{p p2 p3 p4:aZ}{k:Nat}
 (x:Hd w.params K fs ah U cP cQ g ρ σ s.heap) (fl:et g L s.heap ev) (hk:bI c U.sc=some .globalImplicit) (hv:P.glob c=some (.cls CF))
 (h:∀h',Hd w.params K fs ah U cP cQ g ρ σ h'->Q (.ret .none) {s with heap:=h'}) :
 wpAny (model au w) A (noteFrame ev ah) (λZ jL=>wpAny (model au w) A (setFlight ev none) (λZ mx=>wpAny (model au w) A (handleBy ev ah [.ExceptHandler (some (.Name c p)) none [.Return (some (.Constant .none k p2)) p3] p4]) Q E mx) E jL) E s:=by
 refine dc hh ?_;clear hh;rintro f r rfl hf;obtain⟨hp,gs,d,tk,os⟩:=s;refine v3 eW hf ef x.w fl x.st.live λh2 D2 E9 Gp=>?_;have x2:=x.kN E9;refine vW (F:=none) x2.w Gp λh3 D3 FX pR=>?_;have x3:=x2.kN FX;have pR:=pR L (.inl rfl);refine et.casesOn pR.1 ?_;rintro a o vs dx es k od rfl hN hg ha hc kK hd gX jw mB kU jO iX;refine wpAny_handleBy_cons (codeAny_handlers_test (B8 O.po x3.w x3.e hk hv ?_)) (by intro q;exact nC oK q rfl);refine n7.casesOn O.fl.cls ?_;rintro nm q N bs sn sub ab kZ dd k0 k1 k2 k3 k5 hK;refine wpAny_excMatches_sub_self (x3.w.ba.k _ _ hK) ha hc (by simp[hM]) (codeAny_handlers_suite ?_);refine vW (F:=none) (s:=⟨h3,gs,d,tk,os⟩) x3.w pR λh4 D4 FE sZ=>?_;obtain x4:= x3.kN FE;refine vw ?_;show wpAny _ _ (standAt p3>>=λZ=>eval (.Constant .none _ p2) ah>>=λv=>pure (Flow.ret v)) _ _ _;refine aF (jl (aF ?_));exact bq (bq (h h4 x4))
theorem Pg (O:OkT au w K P Γ)(eW:A.frames=some fs)(oD:A.depth+36<=900)(hh:∃f r,fs=f::r/\f.frame=some L)(ef:ah.frame=some L){ev:az}{c c' f y:ak}{p p1 p2 p3 p4 p5 p6 p7 p8 p9 iS:aZ}{iy:Int}
 (x:Hd w.params K fs ah U cP cQ g ρ σ s.heap) (fl:et g L s.heap ev) (hk:bI c U.sc=some .globalImplicit) (hv:P.glob c=some (.cls CF)) (q8:bI c' U.sc=some .globalImplicit) (pN:P.glob c'=some (.cls CF))
 (AA:bI f U.sc=some .local) (ZV:bI y U.sc=some .local) (hy:lk y (cW U).loc=some (.int iy)) (E3:U.ro.any (bg f)=false) (f1:bg f "message"=false) (f2:bg f "place"=false)
 (h:∀h' e,Hd w.params K fs ah U cP cQ g ρ σ h'->et g L h' e->∀tk,E e {s with heap:=h',toks:=tk}) :
 wpAny (model au w) A (noteFrame ev ah) (λZ jL=>wpAny (model au w) A (setFlight ev none) (λZ mx=>wpAny (model au w) A (handleBy ev ah [.ExceptHandler (some (.Name c p)) (some f) [.Raise (some (.Call (.Name c' p1) [.Attribute (.Name f p2) "message" p3,.BinOp (.Name y p4) .Add (.Attribute (.Name f p5) "place" p6) p7] [] p8)) none p9] iS]) Q E mx) E jL) E s:=by
 refine dc hh ?_;clear hh;rintro fr r rfl hf;obtain⟨hp,gs,d,tk,os⟩:=s;refine v3 eW hf ef x.w fl x.st.live λh2 D2 E9 Gp=>?_;have x2:=x.kN E9;refine vW (F:=none) x2.w Gp λh3 D3 FX pR=>?_;have x3:=x2.kN FX;have pR:=pR L (.inl rfl);refine et.casesOn pR.1 ?_;rintro a o vs dx es k od rfl hN hg ha hc kK hd gX jw mB kU jO iX;refine wpAny_handleBy_cons (codeAny_handlers_test (B8 O.po x3.w x3.e hk hv ?_)) (by intro q;exact nC oK q rfl);refine n7.casesOn O.fl.cls ?_;rintro nm q N bs sn sub ab kZ dd k0 k1 k2 k3 k5 hK;refine wpAny_excMatches_sub_self (x3.w.ba.k _ _ hK) ha hc (by simp[hM]) (codeAny_handlers_suite_as ?_);clear ha hc kK hd gX jw mB kU jO iX;refine vW (F:=none) (s:=⟨h3,gs,d,tk,os⟩) x3.w pR λh4 D4 FE sZ=>?_;have x4:=x3.kN FE;obtain sZ:= sZ L (.inl rfl);refine aO x4.e.ns ?_;rintro m GX ZQ;have Lq:(ah.scope.kind==.class||(ah.scope.kind==.module&&ah.locals != ah.globals))=false:=by rw[x4.e.k];rfl
 have n1:("message":ak)≠f:=λz=>by rw[eh.mpr z.symm]at f1;exact tF f1
 have n2:("place":ak)≠f:=λz=>by rw[eh.mpr z.symm]at f2;exact tF f2
 refine Be (x4.e.kl f AA) GX (λh5 z8 NG=>?_) Lq;have x5:=x4.loc GX ZQ z8 NG λz v q=>if_neg (DB q E3);obtain fl5:= sZ.names GX z8 NG (if_neg n1) (if_neg n2);refine et.casesOn fl5.1 ?_;rintro a' o vs dx es k od e5 hN hg ha hc kK hd gX jw ⟨sm,tm,mB⟩ ⟨ip,tp,kU⟩ ⟨nc,vc,ZS,jO⟩ iX;cases e5;refine aO x5.e.ns ?_;rintro m5 zN hm5;refine Xe (hm5 y _ hy) ?_;rintro vy hmy ty rfl;have Ow:m5 f=some (.ref a):=by
  obtain h1: ∀{b o} {m m':ak->Option az} {z:ak},h5.get? b=some o->h5.Ns b m->h5.Ns b m'->m z=m' z:=λ{b o m m' z} q1 q2 q3=>by
   refine mh q2 ?_;rintro o1 e1 p1 r1 r2 _ r3;refine mh q3 ?_;rintro o2 e2 p2 s1 s2 _ s3;rw[r1]at s1;(revert s2;refine aT s1 ?_;intro s2);rw[r2]at s2;cases s2;rw[<- r3,<- s3]
  refine jI (id z8) ?_;rintro o1 _ _ r1 _;rw[h1 r1 zN z8];exact if_pos rfl
 refine vw ?_;refine VC λQ1 E1 Oe Y2=>?_;refine HO O.fl (by rfl) ?_;refine B8 O.po x5.w x5.e q8 pN ⟨rfl,?_⟩;rw[xX (by rfl),xX (by rfl)];refine spliced_cons (HI (s:=⟨h5,gs,d,tk+1,os⟩) O x5.w.ba.k x5.e AA zN Ow ha hc hd kK gX O.fl.n1 mB rfl λYs=>?_);refine spliced_cons ?_;rw[arm_eval_BinOp];refine aF (IW x5.e ZV zN hmy ?_);refine aF (fy (HI (s:=⟨h5,gs,d,Ys,os⟩) O x5.w.ba.k x5.e AA zN Ow ha hc hd kK gX O.fl.n2 kU rfl λFL=>?_));refine aF (jl ?_);unfold operate;refine aF (fy (O8 ?_));refine aF (vG (bq ?_));refine spliced_nil ⟨⟨_,_,_,rfl,.inr (d7 _ _ rfl)⟩,x5.w.ba,x5.w.sz (by simp),oD,λh6 xx z9 md=>?_⟩;have Np:Ch h5 (nc+1) (.ref a):=.cons ha hc hd ZS jO;refine oA (md.Wy (L:=L) (λc q=>x5.st.nu q) Np) ?_;rintro Zk YC;refine jU (id md) ?_;rintro d' t' fu k' kk hx hNx hxx _;refine Qd (n:=nc) (b:=a) rfl kk hx Np hxx rfl (by simp[fI]) ?_;have x6:=x5.grow YC;refine Y2 _ _ ?_;refine v3 (A:=A.mark (some (.ref a))) eW hf ef x6.w Zk x6.st.live λh7 D7 Zg X8=>?_;have x7:=x6.kN Zg;refine aO x7.e.ns ?_;rintro m7 Fy Z4;refine Sb (x7.e.kl f AA) Fy Lq λh8 m8 h9 m9 xd r8 Ov Oy r9 Nr=>?_;have x8:=x7.loc Fy Z4 xd Ov λz v q=>r8 z (DB q E3);obtain fl8:= X8.names Fy xd Ov (r8 _ n1) (r8 _ n2);have x9:=x8.loc xd (λz v q=>by
  refine aO (x8.e.ns.choose_spec.2 z v q) ?_;rintro u h1 h2;obtain af:= x8.e.ns.choose_spec.1;refine(aP u ?_ h2);refine mh af ?_;rintro o1 e1 p1 r1 r2 _ r3;refine mh (id xd) ?_;rintro o2 e2 p2 s1 s2 _ s3;rw[r1]at s1;(revert s2;refine aT s1 ?_;intro s2);rw[r2]at s2;cases s2;rw[<- s3,r3];exact h1) Oy Nr λz v q=>r9 z (DB q E3)
 obtain ZH:= fl8.names xd Oy Nr (r9 _ n1) (r9 _ n2);refine Qb (s:=⟨h9,gs,d,_,os⟩) x9.w ef ZH λlL D10 WR XT=>?_;have Gy:=x9.kN WR;refine v3 (s:=⟨lL,gs,d,_,os⟩) (A:=A.mark (some (.ref a))) eW hf ef Gy.w XT.1 Gy.st.live λpI D11 WQ W9=>?_;have xe:=Gy.kN WQ;refine J3 (s:=⟨pI,gs,d,_,os⟩) ef xe.w W9 λZz D12 WL XN=>?_;exact h Zz _ (xe.kN WL) XN _
end
section
variable {au:cB}{w:bw}{K:bz}{P:PE}{Γ:ax->Option (Nat->List V->Mo V)}{sf:Jb->Mo An}{A:bZ}{fs:List a9}{L:ax}{ah:a9}{U:Fm}{ρ:Nat->ax}{σ:Sg}{s:aN}
theorem Qt (b:List bO)(hs:List ExceptHandler)(pos:aZ):eV P sf U (.Try b hs [] [] pos) σ=(match sF sf (.ss U b) σ with
 |none=>none
 |some (.ok (fl,cg),aj)=>some (.ok (fl,cg),aj)
 |some (.exc,aj)=>r0 P U hs aj):=by
 rfl
theorem Un (h:lk x U.loc=some v)(hr:U.ro.any (bg x)=true):lk x (cW U).loc=some v:=by
 skip;obtain af: ∀(l:List (ak×V)),lk x l=some v->lk x (l.filter λp=>U.ro.any (bg p.1))=some v:=λl=>by
  induction l with
  |nil=>exact id
  |cons p l ih =>
   intro e;rw[fA]at e;rw[oN];by_cases z:x=p.1
   ·rw[if_pos z]at e;rw[if_pos (z▸hr),fA,if_pos z];exact e
   ·rw[if_neg z]at e;split
    ·rw[fA,if_neg z];exact ih e
    ·exact ih e
 exact af _ h
theorem za (h:uM e=some c):∃p,e=.Name c p:=by induction e using cR<;>cases h;exact⟨_,rfl⟩
theorem T6 (h:NU e=true):∃k p,e=.Constant .none k p:=by
 induction e using cR with
 |Constant k _ _=>induction k<;>first|exact(d7 _ _ rfl)|exact fT h
 |_=>exact fT h
theorem Ue (h:Ad e=true):∃k p q,e=.Return (some (.Constant .none k p)) q:=by
 induction e using vg with
 |Return v q =>
  induction v with
  |none=>exact fT h
  |some e=>refine fE (T6 h) ?_;clear h;rintro k p rfl;exact(zQ _ _ _ rfl)
 |_=>exact fT h
theorem KU (h:Ek e=some (f,a)):∃p q,e=.Attribute (.Name f p) a q:=by
 induction e using cR with
 |Attribute o b q =>
  refine aO (mO.mp h) ?_;rintro f' h1 h2;(clear h;revert h1;refine Mf h2 ?_;clear h2 f' b;intro h1);refine oE (za h1) ?_;clear h1;rintro p rfl;exact(d7 _ _ rfl)
 |_=>exact nS h
theorem U4 (h:Nl e=some (x,f,a)):∃p q p' q',e=.BinOp (.Name x p) .Add (.Attribute (.Name f q) a p') q':=by
 induction e using cR with
 |BinOp l op r q' =>
  induction op with
  |Add =>
   refine aO (lV.mp h) ?_;rintro x' h1 h2;refine aO (mO.mp h2) ?_;rintro p' h3 h4;(clear h2;revert h1 h3;refine Mf h4 ?_;clear h4 x' p';intro h1 h3);refine oE (za h1) ?_;clear h h1;rintro p rfl;refine fE (KU h3) ?_;rintro q p' rfl;exact(La _ _ _ _ rfl)
  |_=>exact nS h
 |_=>exact nS h
theorem SQ (h:EH l=some p):l=[p.1,p.2]:=by
 induction l using aQ with
 |nil=>exact nS h
 |cons a l =>
  induction l using aQ with
  |nil=>exact nS h
  |cons b l=>induction l using aQ<;>cases h;rfl
theorem JM (h:wR l=some a):l=[a]:=by
 induction l using aQ with
 |nil=>exact nS h
 |cons b l=>induction l using aQ<;>cases h;rfl
theorem UG (h:Ni e=some (c,(f,a),(x,g,b))):∃p1 p2 p3 p4 p5 p6 p7 p8,e=.Call (.Name c p1) [.Attribute (.Name f p2) a p3,.BinOp (.Name x p4) .Add (.Attribute (.Name g p5) b p6) p7] [] p8:=by
 induction e using cR with
 |Call fn av kw p =>
  induction kw using aQ with
  |cons _ _=>exact nS h
  |nil =>
   refine aO (lV.mp h) ?_;rintro c' h1 h;refine aO (lV.mp h) ?_;rintro q h2 h;refine aO (lV.mp h) ?_;rintro u h3 h;refine aO (mO.mp h) ?_;rintro v h4 h;cases h;refine oE (za h1) ?_;clear h1;rintro p1 rfl;cases SQ h2;refine fE (KU h3) ?_;rintro p2 p3 e3;refine Dy (U4 h4) ?_;rintro p4 p5 p6 p7 e4;rw[e3,e4];exact⟨_,_,_,_,_,_,_,_,rfl⟩
 |_=>exact nS h
theorem UW (h:N8 e=some (c,(f,a),(x,g,b))):∃p1 p2 p3 p4 p5 p6 p7 p8 p9,e=.Raise (some (.Call (.Name c p1) [.Attribute (.Name f p2) a p3,.BinOp (.Name x p4) .Add (.Attribute (.Name g p5) b p6) p7] [] p8)) none p9:=by
 induction e using vg with
 |Raise e k p =>
  induction k with
  |some _=>exact nS h
  |none =>
   refine aO (lV.mp h) ?_;rintro e' rfl h;refine Ia (UG h) ?_;clear h;rintro p1 p2 p3 p4 p5 p6 p7 p8 rfl;exact⟨_,_,_,_,_,_,_,_,_,rfl⟩
 |_=>exact nS h
inductive zE:List ExceptHandler->Hk->Prop
 |ret {c:ak} {k0:Nat} {p p2 p3 p4:aZ}:zE [.ExceptHandler (some (.Name c p)) none [.Return (some (.Constant .none k0 p2)) p3] p4] (.ret c)
 |pD {c f c' f' a x g b:ak} {p p1 p2 p3 p4 p5 p6 p7 p8 p9 iS:aZ}:zE [.ExceptHandler (some (.Name c p)) (some f) [.Raise (some (.Call (.Name c' p1) [.Attribute (.Name f' p2) a p3,.BinOp (.Name x p4) .Add (.Attribute (.Name g p5) b p6) p7] [] p8)) none p9] iS] (.pD c f c' f' a x g b)
theorem U9 (h:EP hs=some k):zE hs k:=by
 refine aO (lV.mp h) ?_;rintro⟨t,n,b,iS⟩ h0 h;rw[JM h0];clear h0;refine aO (lV.mp h) ?_;clear h;rintro c h1 h;refine aO (lV.mp h) ?_;clear h;rintro s h2 h;rw[JM h2];clear h2;refine aO (lV.mp h1) ?_;clear h1;rintro e rfl h1;refine oE (za h1) ?_;clear h1;rintro p rfl;induction n with
 |none =>
  obtain h:(match Ad s with|true=>some (Hk.ret c)|false=>none)=some k:=h;induction hr:Ad s with
  |false=>rw[hr]at h;exact nS h
  |true =>
   rw[hr]at h;rw[<- jR h];refine wY (Ue hr) ?_;clear hr;rintro k0 p2 p3 rfl;exact .ret
 |some f =>
  refine aO (mO.mp h) ?_;clear h;rintro⟨c',⟨f',a⟩,x,g,b⟩ h3 h4;rw[<- h4];refine Qo (UW h3) ?_;clear h3;rintro p1 p2 p3 p4 p5 p6 p7 p8 p9 rfl;exact .pD
theorem Dq (h:zJ P o=true):o=some (.cls P.fault):=by
 induction o with
 |none=>exact fT h
 |some v =>
  induction v using Zq.V.casesOn with
  |cls C=>rw[eS (show bx C P.fault=true from h)]
  |_=>exact fT h
theorem Ui (h:isIn o=true):∃i,o=some (.int i):=by
 induction o with
 |none=>exact fT h
 |some v=>induction v using Zq.V.casesOn<;>first|exact⟨_,rfl⟩|exact fT h
theorem wb (h:um k o=true):o=some k:=by
 induction o with
 |none=>exact fT h
 |some q=>rw[eq_of_beq (show(q==k)=true from h)]
inductive AL (P:PE)(U:Fm):List ExceptHandler->Rs (Fl×Fm)->Prop
 |ret {c:ak} {k0:Nat} {p p2 p3 p4:aZ}:P.glob c=some (.cls P.fault)->bI c U.sc=some .globalImplicit->AL P U [.ExceptHandler (some (.Name c p)) none [.Return (some (.Constant .none k0 p2)) p3] p4] (.ok (.ret .none,cW U))
 |pD {c f c' x:ak} {iy:Int} {p p1 p2 p3 p4 p5 p6 p7 p8 p9 iS:aZ}:P.glob c=some (.cls P.fault)->P.glob c'=some (.cls P.fault)->lk x U.loc=some (.int iy)->bI x U.sc=some .local->bI f U.sc=some .local ->
  bI c U.sc=some .globalImplicit->bI c' U.sc=some .globalImplicit->U.ro.any (bg x)=true->U.ro.any (bg f)=false->bg f "message"=false->bg f "place"=false ->
  AL P U [.ExceptHandler (some (.Name c p)) (some f) [.Raise (some (.Call (.Name c' p1) [.Attribute (.Name f p2) "message" p3,.BinOp (.Name x p4) .Add (.Attribute (.Name f p5) "place" p6) p7] [] p8)) none p9] iS] .exc
theorem QY (e:r0 P U hs σ=some (r,aj)):aj=σ/\AL P U hs r:=by
 unfold r0 at e;induction hk:EP hs with
 |none=>rw[hk]at e;exact nS e
 |some k =>
  rw[hk]at e;obtain hk:=U9 hk;induction hk using zE.casesOn with
  |@ret c k0 p p2 p3 p4 =>
   obtain e:(match DC P U c with|true=>rt (Fl.ret .none,cW U)|false=>no) σ=some (r,aj):=e;induction hb:DC P U c with
   |false=>rw[hb]at e;exact nS e
   |true =>
    rw[hb]at e;obtain i:=Jz (jR (show some (Rs.ok (Fl.ret .none,cW U),σ)=some (r,aj) from e));obtain hb:=jP.mp hb;rw[<- i.1,<- i.2];exact⟨rfl,.ret (Dq hb.1) (wb hb.2)⟩
  |@pD c f c' f' a y g' b p p1 p2 p3 p4 p5 p6 p7 p8 p9 iS =>
   obtain e:(match zu P U c f c' f' a y g' b with|true=>ex|false=>no) σ=some (r,aj):=e;induction hb:zu P U c f c' f' a y g' b with
   |false=>rw[hb]at e;exact nS e
   |true =>
    rw[hb]at e;obtain i:=Jz (jR (show some (Rs.exc,σ)=some (r,aj) from e));rw[<- i.1,<- i.2];clear i e;unfold zu at hb;simp only[cc,xV]at hb;have q:=hb.2;have w:=hb.1;clear hb;rw[<- eh.mp q.1.1.1.1.1.1.1,<- eh.mp q.1.1.1.1.1.1.2,eh.mp q.1.1.1.1.1.2,eh.mp q.1.1.1.1.2];refine oE (Ui w.1.1.1.1.2) ?_;intro iy hl;exact⟨rfl,.pD (Dq w.1.1.1.1.1.1) (Dq w.1.1.1.1.1.2) hl (wb w.1.1.1.2) (wb w.1.1.2) (wb w.1.2) (wb w.2) q.1.1.1.2 q.1.1.2 q.1.2 q.2⟩
theorem Uo (O:OkT au w K P Γ)(eW:A.frames=some fs)(oD:A.depth+36<=900)(hh:∃f r,fs=f::r/\f.frame=some L)(ef:ah.frame=some L){cP:Nat->ax}{cQ:Nat}{g:bf}{ev:az}{hs:List ExceptHandler}{r:Rs (Fl×Fm)}{aj:Sg}
 {Q:j9->aN->Prop} {E:az->aN->Prop}
 (x:Hd w.params K fs ah U cP cQ g ρ σ s.heap) (fl:et g L s.heap ev) (e:r0 P U hs σ=some (r,aj))
 (h1:r=.ok (.ret .none,cW U)->aj=σ->∀h',Hd w.params K fs ah U cP cQ g ρ σ h'->Q (.ret .none) {s with heap:=h'})
 (h2:r=.exc->aj=σ->∀h' e,Hd w.params K fs ah U cP cQ g ρ σ h'->et g L h' e->∀tk,E e {s with heap:=h',toks:=tk}) :
 wpAny (model au w) A (noteFrame ev ah) (λZ jL=>wpAny (model au w) A (setFlight ev none) (λZ mx=>wpAny (model au w) A (handleBy ev ah hs) Q E mx) E jL) E s:=by
 refine oA (QY e) ?_;clear e;intro mL hk;induction hk using AL.casesOn with
 |ret a1 a2=>exact PC O eW hh ef x fl a2 (O.fc▸a1) (h1 rfl mL)
 |pD a1 a2 hl a4 a5 a6 a7 b7 b8 b9 b10=>exact Pg O eW oD hh ef x fl a6 (O.fc▸a1) a7 (O.fc▸a2) a5 a4 (Un hl b7) b8 b9 b10 (h2 rfl mL)
theorem Vw (h:a+4*d+40<=900):a+36<=900:=by lia
theorem Tq (I:Ih au w K sf)(O:OkT au w K P Γ)(b:List bO)(hs:List ExceptHandler)(pos:aZ)(cx:Ctx w.params K A fs L ah U ρ σ s.heap) :
 aL (model au w) A w.params K fs L [ah.locals] (aI fs) ρ σ s (cX ah U) (eV P sf U (.Try b hs [] [] pos)) (exec (.Try b hs [] [] pos) ah) (RS ah U):=by
 intro r aj e Q E hq;rw[Qt]at e;rw[arm_exec_Try];refine aF (jl ?_);have hB:=BX I b cx;induction hm:sF sf (.ss U b) σ with
 |none=>rw[hm]at e;exact nS e
 |some p =>
  obtain⟨r1,bj⟩:=p;rw[hm]at e;induction r1 with
  |ok q =>
   obtain⟨fl,cg⟩:=q;(revert hq hm;refine i7 e ?_;clear e r bj;intro hq hm);have L4:∀(Q':j9->aN->Prop) (E':az->aN->Prop),(∀f s',Q f s'->Q' f s')->wpAny (model au w) A (execs b ah) Q' E' s:=λQ' E' Y5=>by
    refine hB _ _ hm _ _ λaJ s' w' st g1 g2=>⟨λa ha f hf=>?_,λh=>by exact nC Zq.Rs.ctorIdx h rfl⟩;(revert hf;refine dI ha ?_;intro hf);exact Y5 _ _ ((hq aJ s' w' st g1 g2).1 _ rfl _ hf)
   induction hs using aQ with
   |nil =>
    refine aF (wpAny_attempt (L4 _ _ λf eL bU=>?_));induction f<;>first|exact bq bU|exact vB bU
   |cons h₀ hs =>
    refine wpAny_tryStmt_except (L4 _ _ λf eL bU=>?_);induction f<;>first|exact bU|exact vB bU
  |exc =>
   dsimp only at e;induction hs using aQ with
   |nil=>exact nS e
   |cons h₀ hs =>
    refine wpAny_tryStmt_except (hB _ _ hm _ _ λaJ s' w' st g1 g2=>⟨λa ha=>(nC Zq.Rs.ctorIdx ha rfl),λZ ev fl hx=>?_⟩);obtain x: Hd w.params K fs ah U ρ σ.length s.heap aJ bj s'.heap:=⟨w',st,hx⟩;have oD:=Vw cx.rm.dep;refine Uo O cx.rm.fr oD cx.hd cx.ef x fl e (λh1 h2 h' x'=>?_) λh1 h2 h' e' x' oq tk=>?_
    ·clear e hm hx st w' x;subst h1 h2;exact(hq aJ {s' with heap:=h'} x'.w x'.st g1 g2).1 _ rfl _ ⟨(aP _ rfl rfl),x'.e,by
      unfold cW;simp only[List.filter_filter,Bool.and_self]⟩
    ·clear e hm hx st w' x;subst h1 h2;exact(hq aJ {s' with heap:=h',toks:=tk} x'.w x'.st g1 g2).2 rfl _ oq x'.e
end
section
variable {au:cB}{w:bw}{K:bz}{P:PE}{Γ:ax->Option (Nat->List V->Mo V)}{sf:Jb->Mo An}{A:bZ}{fs:List a9}{L:ax}{ah:a9}{U:Fm}{ρ:Nat->ax}{σ:Sg}{s:aN}
theorem Q7 (I:Ih au w K sf)(O:Ok au w K P Γ)(x:Expr)(cx:Ctx w.params K A fs L ah U ρ σ s.heap) :
 aL (model au w) A w.params K fs L [] (aI fs) ρ σ s cD (fH P Γ sf U x) (eval x ah) RV:=by
 induction x using cR with
 |Constant c k p=>exact QQ c k p cx
 |Name x p=>exact RA O x p cx
 |BoolOp op xs p=>exact Uv I op xs p cx
 |BinOp l op r p=>exact TN I O l r op p cx
 |UnaryOp op x p =>
  induction op with
  |Not=>exact Tt I x p cx
  |USub=>exact TM I x p cx
  |_=>exact .no
 |IfExp t b o p=>exact Tx I t b o p cx
 |Compare l bW xs p=>exact TY I l bW xs p cx
 |Call f av kw p =>
  induction kw using aQ with
  |cons _ _=>induction f using cR<;>exact .no
  |nil =>
   induction f using cR with
   |Attribute o x ap=>exact O7 I O o x ap p av cx
   |Name f q=>exact O4 I O f q p av cx
   |_=>exact .no
 |Attribute o x p=>exact RU I O o x p cx
 |Subscript o i p =>
  induction i using cR with
  |Slice lo hi st q =>
   induction st with
   |none=>exact QP I o lo hi q p cx
   |some z=>exact .no
  |_=>exact SJ I o _ p rfl cx
 |Tuple xs k p=>exact Tw I xs k p cx
 |List xs p=>exact R7 I xs p cx
 |Dict ks vs p =>
  induction ks using aQ with
  |nil =>
   induction vs using aQ with
   |nil=>exact RZ p cx
   |cons _ _=>exact .no
  |cons _ _=>exact .no
 |ListComp elt gens sc p =>
  induction gens using aQ with
  |nil=>exact .no
  |cons g r =>
   obtain⟨t,it,ifs,n⟩:=g;induction n with
   |negSucc _=>induction r using aQ<;>exact .no
   |ofNat n =>
    induction r using aQ with
    |cons _ _=>induction n using eO<;>exact .no
    |nil =>
     induction n using eO with
     |zero=>exact RE I O elt t it ifs sc p cx
     |succ _=>exact .no
 |_=>exact .no
theorem Rg (I:Ih au w K sf)(O:OkT au w K P Γ)(x:bO)(cx:Ctx w.params K A fs L ah U ρ σ s.heap) :
 aL (model au w) A w.params K fs L [ah.locals] (aI fs) ρ σ s (cX ah U) (eV P sf U x) (exec x ah) (RS ah U):=by
 induction x using vg with
 |Expr x p=>exact RR I x p cx
 |Pass p =>
  rw[arm_exec_Pass];exact .at_ (.pure cx.w (dg rfl cx.e rfl))
 |Break p =>
  rw[arm_exec_Break];exact .at_ (.pure cx.w (dg rfl cx.e rfl))
 |Return v p =>
  induction v with
  |none=>exact .no
  |some x=>exact Tn I x p cx
 |Assign ts x p =>
  induction ts using aQ with
  |nil=>exact .no
  |cons t r =>
   induction r using aQ with
   |nil=>exact PW I O.toOk t x p cx
   |cons _ _=>exact .no
 |If t b o p=>exact Uj I t b o p cx
 |While t b o p =>
  induction o using aQ with
  |nil=>exact Q6 I t b p cx
  |cons _ _=>exact .no
 |For t i b o p =>
  induction o using aQ with
  |nil=>exact S5 I O.toOk t i b p cx
  |cons _ _=>exact .no
 |Raise e c p =>
  induction e with
  |none=>induction c<;>exact .no
  |some e =>
   induction e using cR with
   |Call f av kw q =>
    induction f using cR with
    |Name f r =>
     induction kw using aQ with
     |nil =>
      induction c with
      |none=>exact QW I O.toOkF f r q p av cx
      |some _=>exact .no
     |cons _ _=>induction c<;>exact .no
    |_=>induction kw using aQ<;>induction c<;>exact .no
   |_=>induction c<;>exact .no
 |Try b hs o f p =>
  induction o using aQ with
  |nil =>
   induction f using aQ with
   |nil=>exact Tq I O b hs p cx
   |cons _ _=>exact .no
  |cons _ _=>induction f using aQ<;>exact .no
 |_=>exact .no
theorem SG:Ih au w K (λZ=>no) where
 e x c:=.no
 es x p c:=.no
 t x c:=.no
 ts o x c:=.no
 bo o x p c:=.no
 ch v l o x p c h:=⟨.no,.no⟩
 ca d f a fv vs r h1 h2 h3:=.no
 cf d a av vs r h1 h2:=λr aj e=>by exact nS e
 s x c:=.no
 wh t b c:=λr aj e=>by exact nS e
 fo t it b I ρ n g c h1 h2 h3 h4:=λr aj e=>by exact nS e
 cp e t i ifs sc p it aA I ρ n g c h1 h2 h3 h4 h5:=λr aj e=>by exact nS e
 ss xs c:=.no
theorem aL.Yj (h:aL (model au w) A w.params K fs L X (aI fs) ρ σ s EX m t (RS ah U)):aL (model au w) A w.params K fs L X (aI fs) ρ σ s EX (bd m λr=>rt (.f r.1 r.2)) t (RF ah U) :=
 aL.map (f:=λr=>An.f r.1 r.2) h λh ρ n a b r=>(dp a.1 a.2 rfl r.1 r.2.1 r.2.2)
theorem TZ (I:Ih au w K sf)(O:OkT au w K P Γ)(r:Rm A fs d)(h1:W w.params K fs ρ σ s.heap)(h2:aW s.heap ρ σ.length av vs):kI (model au w) A w.params K fs L ρ σ s (sV (step P Γ sf) (.ca d (.fn a) av)) (.call (.ref a) ⟨vs,[]⟩):=by
 obtain h:=HU (L:=L) (a:=a) I O.fo r h1 h2;intro rr aj e;refine h rr aj ?_;obtain e1:sV (step P Γ sf) (.ca d (.fn a) av)=bd (bd (fS P Γ sf d (.fn a) av) λv=>rt (An.v v)) λ|.v v=>rt v|_=>no:=rfl
 rw[e1,Jn]at e;obtain e2: (bd (fS P Γ sf d (.fn a) av) λv=>bd (rt (An.v v)) λ|.v v=>rt v|_=>no)=fS P Γ sf d (.fn a) av:=by
  funext τ
  unfold bd rt;induction fS P Γ sf d (.fn a) av τ with
  |none=>rfl
  |some p=>obtain⟨r,τ'⟩:=p;induction r<;>rfl
 rw[e2]at e;exact e
theorem S4 (I:Ih au w K sf)(O:OkT au w K P Γ):Ih au w K (step P Γ sf) where
 e x c:=aL.map (f:=An.v) (Q7 I O.toOk x c) λh ρ n a b r=>(aP _ rfl r)
 es x p c:=Uk I x p c
 t x c:=aL.map (f:=An.b) (Qu I x c) λh ρ n a b r=>by(refine ir (show a=b from r) ?_);rfl
 ts o x c:=T9 I o x c
 bo o x p c:=Uq I o x p c
 ch v l o x p c h:=Vi I v l o x p c h
 ca d f a fv vs r h1 h2 h3:=aL.map (f:=An.v) (U7 I O.fo r h1 h2 h3) λh ρ n a b r=>(aP _ rfl r)
 cf d a av vs r h1 h2:=TZ I O r h1 h2
 s x c:=aL.Yj (Rg I O x c)
 wh t b c:=UM I t b c
 fo t it b i ρ n g c h1 h2 h3 h4:=Ux I O.toOk t it b i ρ n g c h1 h2 h3 h4
 cp e t i ifs sc p it aA i2 ρ n g c h1 h2 h3 h4 h5:=Uy I O.toOk e t i ifs sc p it aA i2 ρ n g c h1 h2 h3 h4 h5
 ss xs c:=UY I xs c
theorem BS (O:OkT au w K P Γ):∀n,Ih au w K (run P Γ n)
 | 0=>SG
 |n+1=>S4 (BS O n) O
end
noncomputable def qA (x:ak):List ak->Bool
 |[]=>true
 |y::r=>match bg x y with
  |true=>false
  |false=>qA x r
noncomputable def wi:List ak->Bool
 |[]=>true
 |x::r=>match qA x r with
  |true=>wi r
  |false=>false
set_option tactic.hygienic true in
theorem tO:∀{l},qA x l=true->x∉l
 |[],_=>by simp
 |y::r,h=>by
  dsimp only[qA]at h;split at h
  ·exact fT h
  ·rename_i q;obtain af: x≠y:=λz=>by rw[eh.mpr z]at q;exact tF q
   simp[af,tO h]
set_option tactic.hygienic true in
theorem yG:∀{l},wi l=true->l.Nodup
 |[],_=>.nil
 |x::r,h=>by
  dsimp only[wi]at h;split at h
  ·rename_i q;exact jS.mpr ⟨tO q,yG h⟩
  ·exact fT h
noncomputable def KG (fi:FI):Bool:=(match fi.scope.kind with|.function=>true|_=>false)&&!fi.scope.isCoroutine&&!fi.scope.isGenerator&&wi fi.ps &&
 fi.ps.all (λx=>match bI x fi.scope with|some .local=>true|some .cell=>true|_=>false)&&wi (fi.scope.names.map (·.1))&&qA "__debug__" (fi.scope.names.map (·.1))&&qA "__classdict__" (fi.scope.names.map (·.1))
theorem BJ:∀{l:List (ak×lu)},lk x l=some q->x∈l.map (·.1)
 |[],h=>by exact nS h
 |p::r,h=>by
  rw[fA]at h;by_cases z:x=p.1
  ·clear h;subst z;exact .head _
  ·rw[if_neg z]at h;exact .tail _ (BJ h)
noncomputable def L9 (K:bz)(a:ax)(fi:FI):Prop:=∃oc od fd iU,K.lookup a=some ⟨oc,od,.func fd,iU⟩/\fd.scope=fi.scope/\fd.body=.stmts fi.body/\codeIn K fd.code fd.qualname=true/\fd.closure=[]/\fd.globals=mainGlobals/\fd.builtins=builtinsNs /\
 qr fd.params=true/\fd.params.args.map (·.arg)=fi.ps/\∃ds,fi.df.length<=fi.ps.length/\LV K fd.defaults ds/\∀h ρ n,aW h ρ n fi.df ds
theorem jJ (h:(a&&b)=true):a=true/\b=true:=by
 induction a with
 |true=>exact⟨rfl,h⟩
 |false=>exact fT h
theorem Tb {K:bz}(b:KG fi=true)(e:L9 K a fi):my K a fi:=by
 refine oA (jJ b) ?_;rintro b b8;refine oA (jJ b) ?_;rintro b b7;refine oA (jJ b) ?_;rintro b b6;refine oA (jJ b) ?_;rintro b b5;refine oA (jJ b) ?_;rintro b b4;refine oA (jJ b) ?_;rintro b b3;refine oA (jJ b) ?_;rintro b1 b2;refine⟨?_,wQ b2,wQ b3,yG b4,λx hx=>?_,yG b6,λx q h=>?_,e⟩
 ·revert b1;induction fi.scope.kind with
  |function=>exact λZ=>rfl
  |_=>exact λh=>fT h
 ·have af:=pZ.mp b5 x hx;revert af;induction bI x fi.scope with
  |none=>exact λh=>fT h
  |some q=>induction q with
   |«local»=>exact λZ=>.inl rfl
   |cell=>exact λZ=>.inr rfl
   |_=>exact λh=>fT h
 ·have af:=BJ h;constructor
  ·exact beq_eq_false_iff_ne.mpr λz=>tO b7 (z▸af)
  ·exact beq_eq_false_iff_ne.mpr λz=>tO b8 (z▸af)
noncomputable def Tr.All {α:Type}(p:Nat->α->Prop):Tr α->Prop
 |.nil=>True
 |.node k v l r=>p k v/\l.All p/\r.All p
set_option tactic.hygienic true in
theorem Tr.All.get:∀{t:Tr α},t.All p->∀{i} {v},t.get i=some v->p i v
 |.nil,_,i,v,h=>by exact nS h
 |.node k w l r,a,i,v,h=>by
  dsimp only[Tr.get]at h;induction q:bx i k with
  |true =>
   rw[q]at h;(refine aT h ?_;clear h v);rw[eS q];exact a.1
  |false =>
   rw[q]at h;dsimp only at h;clear q;revert h;induction cE i k with
   |true=>exact Tr.All.get a.2.1
   |false=>exact Tr.All.get a.2.2
noncomputable def Tr.allB {α:Type}(p:Nat->α->Bool):Tr α->Bool
 |.nil=>true
 |.node k v l r=>p k v&&l.allB p&&r.allB p
theorem Tr.All.of:∀{t:Tr α},t.allB p=true->t.All λk v=>p k v=true
 |.nil,_=>trivial
 |.node k v l r,h=>by
  refine oA (jJ h) ?_;clear h;rintro h h3;refine oA (jJ h) ?_;clear h;rintro h1 h2;exact(dg h1 (Tr.All.of h2) (Tr.All.of h3))
noncomputable def Gg (i:Int):az->Bool
 |.int j _=>decide (i=j)
 |_=>false
noncomputable def Ox (s:ak):az->Bool
 |.str t _=>bg s t
 |_=>false
noncomputable def L5 (o:Option cI)(f:List az->Bool):Bool:=match o with
 |some ⟨c,d,.seq ys _,sl⟩=>c==.type "tuple" && (d==none&&(sl==#[]&&f ys.toList))
 |_=>false
noncomputable def LR (K:bz)(f:List az->Bool):az->Bool
 |.ref a=>L5 (K.lookup a) f
 |_=>false
theorem JV (h:Gg i y=true):∃t,y=.int i t:=by
 induction y with
 |int j t=>exact⟨t,congrArg (Value.int · t) (of_decide_eq_true h).symm⟩
 |_=>exact fT h
theorem S3 (h:Ox s y=true):∃t,y=.str s t:=by
 induction y with
 |str j t=>exact⟨t,congrArg (Value.str · t) (eh.mp h).symm⟩
 |_=>exact fT h
theorem Sq (h:L5 o f=true):∃ys k,o=some {cls:=.type "tuple",data:=.seq ys k}/\f ys.toList=true:=by
 induction o with
 |none=>exact fT h
 |some o =>
  induction o with
  |mk c d dt sl =>
   induction dt with
   |seq ys k =>
    obtain h1:=jJ h;obtain h2:=jJ h1.2;obtain h3:=jJ h2.2;rw[eq_of_beq h1.1,eq_of_beq h2.1,eq_of_beq h3.1];exact⟨ys,k,rfl,h3.2⟩
   |_=>exact fT h
theorem Ss {K:bz}(h:LR K f y=true):∃a ys k,y=.ref a/\K.lookup a=some {cls:=.type "tuple",data:=.seq ys k}/\f ys.toList=true:=by
 induction y with
 |ref a=>exact dc (Sq h) λys k h1 h2=>⟨a,ys,k,rfl,h1,h2⟩
 |_=>exact fT h
mutual
noncomputable def zK (K:bz):V->az->Bool
 |.none,y=>y==.none
 |.bool a,y=>y==.bool a
 |.int i,y=>Gg i y
 |.str s,y=>Ox s y
 |.fn a,y=>y==.ref a
 |.cls a,y=>y==.ref a
 |.bi b,y=>y==uC b
 |.tup l,y=>LR K (λys=>DM K l ys) y
 |.ref _,_=>false
 |.fj _ _,_=>false
 |.cm _,_=>false
 |.gG _,_=>false
noncomputable def DM (K:bz):List V->List az->Bool
 |[],ys=>ys.isEmpty
 |v::l,ys=>(match ys with
  |[]=>false
  |y::r=>zK K v y&&DM K l r)
end
mutual
theorem CU {K:bz}{h:bf}{ρ:Nat->ax}{n:Nat}(X:K.In h):∀{v:V} {y:az},zK K v y=true->VR h ρ n v y
 |.none,y,e=>eq_of_beq (show(y==fQ)=true from e)
 |.bool a,y,e=>eq_of_beq (show(y==CE a)=true from e)
 |.int a,y,e=>JV e
 |.str a,y,e=>S3 e
 |.ref a,y,e=>fT e
 |.fn a,y,e=>eq_of_beq (show(y==dn a)=true from e)
 |.cls a,y,e=>eq_of_beq (show(y==dn a)=true from e)
 |.bi b,y,e=>eq_of_beq (show(y==uC b)=true from e)
 |.tup l,y,e=>dG (Ss e) λa ys k h1 h2 h3=>ik a ys k h1 (X _ _ h2) (Ja X h3)
 |.fj _ _,y,e=>fT e
 |.cm _,y,e=>fT e
 |.gG _,y,e=>fT e
theorem Ja {K:bz}{h:bf}{ρ:Nat->ax}{n:Nat}(X:K.In h):∀{l:List V} {ys:List az},DM K l ys=true->aW h ρ n l ys
 |[],ys,e=>xY.mp e
 |_::_,[],e=>fT e
 |v::l,y::r,e=>ey y r rfl (CU X (jJ e).1) (Ja X (jJ e).2)
end
noncomputable def wU (K:bz)(x:ak)(v:V):Bool:=match nsIn K mainGlobals x with
 |some (some y)=>zK K v y
 |some none=>(match bootBuiltins x with
  |some y=>zK K v y&&!bg x "__name__"
  |none=>false)
 |none=>false
noncomputable def zR (K:bz)(C:ax)(x:ak)(r:Option ax):Bool:=hasDictIn K C&&plainGet K C x&&!copiedNames.contains x&&findIn K (.ref C) x==some (r.map dn) &&
 (match r with|none=>true|some a=>typeIn K (.ref a)==some (.type "function")&&specialIn K (.ref a) "__get__" == some (some (.builtin "function.__get__"))&&takesIn K (.ref a)==some false) &&
 findIn K (.ref C) "__setattr__" == some (some (.builtin "object.__setattr__"))&&plainOver K C&&takerIn K C x==some none
noncomputable def Ej (K:bz)(C a:ax):Bool:=makesIn K C&&findIn K (.ref C) "__init__" == some (some (.ref a))&&typeIn K (.ref a)==some (.type "function")
theorem Dd {p:ak->α->Bool}:∀{l},l.all (λq=>p q.1 q.2)=true->lk x l=some v->p x v=true
 |[],_,h=>by exact nS h
 |q::r,a,h=>by
  rw[lY,cc]at a;rw[fA]at h;by_cases z:x=q.1
  ·rw[if_pos z]at h;(refine aT h ?_;clear h v);rw[z];exact a.1
  ·rw[if_neg z]at h;exact Dd a.2 h
theorem Kh:∀{l:List α} {i},l.all p=true->ay l i=some v->p v=true
 |[],_,_,h=>by exact nS h
 |q::r,0,a,h=>by rw[lY,cc]at a;(revert a;refine dP h ?_;clear h q;intro a);exact a.1
 |q::r,i+1,a,h=>by rw[lY,cc]at a;exact Kh (l:=r) a.2 h
set_option tactic.hygienic true in
theorem Tc {K:bz}(g:CK.all (λr=>r.all λq=>wU K q.1 q.2)=true)(a:CI.allB (λC l=>l.all λq=>zR K C q.1 q.2)=true):qS aR K:=by
 refine⟨λx v h=>?_,λC x r h=>?_⟩
 ·obtain h:De x=some v:=h;unfold De at h;split at h
  ·rename_i l hl;obtain af:= Dd (p:=wU K) (Kh (p:=λr=>r.all λq=>wU K q.1 q.2) g hl) h;unfold wU at af;split at af
   ·rename_i y hy;exact(aP y (.inl hy) (λh ρ n X=>CU X af))
   ·rename_i hy;split at af
    ·rename_i y hb;simp only[cc,xV]at af;exact⟨y,.inr (dg hy hb (λz=>by rw[eh.mpr z]at af;exact tF (af.2))),λh ρ n X=>CU X af.1⟩
    ·exact fT af
   ·exact fT af
  ·exact nS h
 ·obtain h:D6 C x=some r:=h;unfold D6 at h;split at h
  ·rename_i l hl;obtain af:= Dd (p:=zR K C) (Tr.All.get (Tr.All.of a) hl) h;unfold zR at af;simp only[cc,beq_iff_eq,xV]at af;refine oA af ?_;clear af;rintro⟨⟨⟨⟨⟨⟨a1,a2⟩,a3⟩,a4⟩,a5⟩,a6⟩,a7⟩ a8;refine⟨a1,a2,a3,a4,λb hb=>?_,a6,a7,a8⟩;clear a4 h;subst hb;simp only[cc,beq_iff_eq]at a5;exact(dg a5.1.1 a5.1.2 a5.2)
  ·exact nS h
theorem TV {K:bz}(a:yX.allB (λC i=>Ej K C i)=true):∀C a,aR.gf C=some a->zA K C a:=λC i h=>by
 have af:=Tr.All.get (Tr.All.of a) (show yX.get C=some i from h);unfold Ej at af;simp only[cc,beq_iff_eq]at af;exact⟨af.1.1,af.1.2,af.2⟩
theorem Ti:C9 cH:=by
 refine⟨rfl,rfl,rfl,yG rfl,rfl,?_,?_,?_⟩
 ·have af:cH.scope.names.all (λp=>p.2 != .cell)=true:=rfl;exact Ci af
 ·have af:cH.ps.all (λx=>match bI x cH.scope with|some .local=>true|_=>false)=true:=rfl;intro x hx;have af:=pZ.mp af x hx;induction h:bI x cH.scope with
  |none=>rw[h]at af;exact fT af
  |some q=>induction q<;>rw[h]at af<;>first|rfl|exact fT af
 ·intro x q h;have af:=BJ h;obtain b7:qA "__debug__" (cH.scope.names.map (·.1))=true:=rfl;obtain b8:qA "__classdict__" (cH.scope.names.map (·.1))=true:=rfl;constructor
  ·exact beq_eq_false_iff_ne.mpr λz=>tO b7 (z▸af)
  ·exact beq_eq_false_iff_ne.mpr λz=>tO b8 (z▸af)
noncomputable def lT:FI:=dC (ja (gy "_law_declared" iJ) [] "_law_declared" 1085 (.none))
noncomputable def Oh:Jb->Mo An
 |.ss U _=>(match U.loc with
  |[]=>bd (aX (lk "doctypes" U.cz)) λa=>bd (aX (lk "table" U.cz)) λb=>bd (al (.told a b)) λk=>rt (.f (.ret (.ref k)) U)
  |_=>no)
 |_=>no
theorem Q8 (d':Nat)(t l:V):Ky (d'+1) [t,l]=sk Oh lT d' [t,l]:=by kernel_rfl
theorem WH:∃ps aq p1 p2 k,lT.body=[.FunctionDef "told" ps cH.body [] none [] cH.scope none "told" CW,.Return (some (.Name "told" p1)) p2]/\ps.defaults=[]/\ps.kw_defaults=[]/\(∀ah,annTrees ps none ah=[])/\qr ps=true/\ps.args.map (·.arg)=cH.ps/\aq=()/\k=0 :=
 ⟨_,_,_,_,_,rfl,rfl,rfl,λZ=>rfl,rfl,rfl,rfl,rfl⟩
theorem Ud:cH.scope.names=[(("event":ak),NameKind.local),(("doctypes":ak),H0),(("table":ak),H0)]:=rfl
theorem kD:bI "told" lT.scope=some .local/\bI "doctypes" lT.scope=some .cell/\bI "table" lT.scope=some .cell:=(dg rfl rfl rfl)
structure EB (K:bz):Prop where
 fn:my K 1086 lT
 cd:∀oc od fd iU,K.lookup 1086=some ⟨oc,od,.func fd,iU⟩->fd.code=.ref 1085/\fd.qualname="_law_declared"/\fd.scope=lT.scope
 hd:codeHdIn K 1085 TT=true
section
variable {M:gT}{A:bZ}{E:az->aN->Prop}{s:aN}{name qual:ak}{params:rY}{body:List bO}{scope:fh}{ah:a9}{c P:ax}{ps:Array az}{pos:aZ}{QF:Nat}{mg:ak->Option az}
 {q:ak×ax} {r:List (ak×ax)} {Q:az->aN->Prop}
theorem Rh (oh:closureFor scope ah=pure (q::r))(Xj:ah.globals=mainGlobals)(hg:s.heap.Ns mainGlobals mg)(DI:ah.code=.ref c)(C:CodeHd s.heap c P)(hP:s.heap.get? P=some (tabObj ps))(ht:TriplesOk ps.toList)
 (xn:codeAmong pos ps.toList=none) (YP:mainGlobals≠P) (hb:s.heap.BuiltinsAt mg P)
 (h:∀c' om doc h' tk,nR P s.heap h'->s.heap.objs.size<=c'->c'<h'.objs.size->h'.CodeRec (.ref c') qual->(∃o,h'.get? c'=some o/\o.cls=.type "code")->h'.get? P=some (tabObj (ps++#[rawInt pos.line,rawInt pos.col,.ref c'])) ->
  Q (.ref h'.objs.size) {s with heap:=h'.push (fnMade name qual params body scope (q::r) doc ((mg "__name__").getD .none) c' om),toks:=tk}) :
 wpAny M A (makeFunction name qual params (.stmts body) scope ah [] [] [] pos QF) Q E s:=by
 rw[makeFunction_eq];simp only[List.zip_nil_right,List.filterMap_nil,List.isEmpty_nil,if_true,pure_bind];refine P0 hb ?_;rintro bm ob hbm WV _ WM Yk EG WC Wv;unfold makeTail;rw[oh,Xj];refine aF (bq ?_);simp only[List.isEmpty_cons,Bool.false_eq_true,if_false];refine aF (wpAny_newTextTuple ?_);refine aF (wpAny_functionCodeX DI ((C.keeps λb o e=>dF _ e).code (dF _ hP) ht) ((C.keeps λb o e=>dF _ e).tab (dF _ hP)) xn λc' h' tk hx A3 gY Z wL iX VB=>?_);obtain N5:=(hg.push _).extBut hx YP;have nF:nR P s.heap h':=λb o NM e=>hx b o NM (dF _ e);have MG:s.heap.objs.size<=c':=bC (by rw[tK];lia) A3;have uO:∃o,h'.get? c'=some o/\o.cls=.type "code":=by
  refine qD VB ?_;rintro P' _ _ ⟨o,vs,e1,e2,_⟩ _;exact(aP o e1 e2)
 refine aF (wpAny_builtinsFor N5 hbm WV (nF _ _ WM Yk) EG WC Wv ?_);refine aF (wpAny_nsGet N5 ?_);induction aah:docOf body with
 |none=>exact aF (bq (xZ (h c' _ .none h' tk nF MG gY wL uO iX.2) (by size_fits)))
 |some t=>exact aF (yB (xZ (h c' _ _ h' _ nF MG gY wL uO iX.2) (by size_fits)))
end
section
variable {P:bA}{K:bz}{fs:List a9}{ρ:Nat->ax}{σ:Sg}{h h':bf}
theorem W.Et (w:W P K fs ρ σ h)(x:nR TT h h')(t:∃vs,h'.get? TT=some {cls:=.none,data:=.fields vs}/\uo h' vs):W P K fs ρ σ h':=by
 obtain ne:∀{a:ax},N0<=a->a≠TT:=λh z=>absurd (z▸h) (by decide);obtain nI: ∀b o,h.get? b=some o->dE o->b≠TT:=λb o e im z=>by
  refine aO w.ba.tab ?_;rintro vs q _;subst z;rw[e]at q;(revert im e;refine dP q ?_;intro im e);unfold dE at im;simp at im
 refine⟨⟨λi o e=>(w.hr.ob i o e).kp ⟨bc _,λZ Z=>rfl,λb o e im=>x b o (nI b o e im) e,λZ Z e=>x _ _ (by decide) e⟩ (λy e'=>x _ _ (ne (w.hr.hi i (bK e))) e'),w.hr.inj,w.hr.hi⟩,w.ba.Ls (λa o h1 h2 e=>x a o h2 e) t,
  w.fr.keep (λa o m e=>(aP o (x a o (ne (w.fr.ne m).1) e) ?_)) λa m=>(w.fr.ne m).2⟩
 refine aO (jQ.mp m) ?_;rintro ah he hl;refine kB (w.fr.ff ah he) ?_;rintro _ L o' h1 h2 h3 h4 h6;rw[h1]at hl;(revert h1 h2 h3 h4;refine dP hl ?_;intro h1 h2 h3 h4);rw[e]at h4;(revert h6;refine aT h4 ?_;intro h6);exact h6
theorem bL.Et (x:nR TT h h')(t:∃o,h'.get? TT=some o)(hF:TT∉F):bL X F ρ n h ρ n h':=by
 refine⟨bc _,λZ Z=>rfl,λZ a b=>absurd b (d8.mpr a),λc o e=>?_,λb o e Z Z Z h4=>x b o h4 e,λb o m Z e=>⟨o.slots,x b o (λz=>hF (z▸m)) e⟩⟩;by_cases z:c=TT
 ·clear e;(refine il z ?_);exact t
 ·exact⟨o,x c o z e⟩
end
section
variable {au:cB}{w:bw}{K:bz}{A:bZ}{fs:List a9}{L:ax}{ah:a9}{U:Fm}{ρ:Nat->ax}{σ:Sg}{s:aN}
theorem Rt (T:EB K)(cx:Ctx w.params K A fs L ah U ρ σ s.heap)(jN:U.sc=lT.scope)(Yt:∀oc od fd iU,K.lookup 1086=some ⟨oc,od,.func fd,iU⟩->ah.scope=fd.scope/\ah.code=fd.code/\ah.qual=fd.qualname++".<locals>.") :
 aL (model au w) A w.params K fs L [ah.locals] (aI fs) ρ σ s (cX ah U) (Oh (.ss U lT.body)) (execs lT.body ah) (RF ah U):=by
 intro r aj e Q E hq;obtain e:(match U.loc with
  |[]=>bd (aX (lk "doctypes" U.cz)) λa=>bd (aX (lk "table" U.cz)) λb=>bd (al (.told a b)) λk=>rt (An.f (.ret (.ref k)) U)
  |_=>no) σ=some (r,aj):=e
 induction EL:U.loc using aQ with
 |cons _ _=>rw[EL]at e;exact nS e
 |nil =>
 rw[EL]at e;induction ha:lk "doctypes" U.cz with
 |none=>rw[ha]at e;exact nS e
 |some ia =>
 induction hb:lk "table" U.cz with
 |none=>rw[ha,hb]at e;exact nS e
 |some ib =>
 rw[ha,hb]at e;(revert hq;refine dX e ?_;intro hq);refine Bc T.fn.ex ?_;rintro oc od fd iU f1 f2 f3 f4 f5 f6 f7 f8 f9 _;refine fp (Yt _ _ _ _ f1) ?_;rintro e1 e2 e3;refine fp (T.cd _ _ _ _ f1) ?_;rintro c1 c2 c3;refine fp (cx.e.kc "doctypes" ia (.inl (by rw[jN];exact kD.2.1)) ha) ?_;rintro i1 i2 i3;refine fp (cx.e.kc "table" ib (.inl (by rw[jN];exact kD.2.2)) hb) ?_;rintro j1 j2 j3;obtain ck: Heap.get? s.heap 1085=none\/True:=.inr trivial;have hC:=codeHd_of_K cx.w.ba.k T.hd;refine aO cx.w.ba.tab ?_;rintro vs ht hT;refine qD cx.w.ba.seer ?_;rintro bm F9 AP GZ sr;refine Jw sr.main ?_;rintro mg ob g1 g2 g3 g4 g5 g6;have rq: mainGlobals≠TT:=by decide
 obtain ZW: bm≠mainGlobals:=λz=>by
  refine dG g1 ?_;rintro o es ep e hd _;rw[<- z,g3]at e;(revert hd;refine aT e ?_;intro hd);rw[g6]at hd;exact nC jB hd rfl
 have ND:s.heap.BuiltinsAt mg TT:=⟨bm,ob,g2,GZ,ZW,AP,g3,g4,g5,g6⟩;have oh:closureFor cH.scope ah=pure [(("table":ak),ρ ib),(("doctypes":ak),ρ ia)]:=by
  unfold closureFor;rw[Ud];simp[cellOf,i3,j3]
 obtain VQ: qualnameIn ah "told" "told"=cH.qual:=by
  unfold qualnameIn;obtain af:=cx.e.kl _ (by rw[jN];exact kD.1);rw[af,e3,c2];decide +kernel
 refine O0 WH ?_;rintro ps _ p1 p2 _ VH d1 d2 d3 d4 d5 _ _;rw[VH];have fin:∀(h':bf) (om doc:az) (c':ax) (tk:Tok),W w.params K fs ρ σ h'->bL [ah.locals] (aI fs) ρ σ.length s.heap ρ σ.length h'->(∃m,h'.Ns ah.locals m)->N0<=h'.objs.size->ah.locals<h'.objs.size ->
  (∃oc xs t,h'.get? c'=some oc/\oc.cls=.type "code"/\oc.data=.fields xs/\xs[1]?=some (.str cH.qual t)) ->
  wpAny (model au w) A (storeName ah "told" (.ref h'.objs.size)) (λZ tf=>wpAny (model au w) A (execs [.Return (some (.Name "told" p1)) p2] ah) Q E tf) E
   {s with heap:=h'.push (fnMade "told" cH.qual ps cH.body cH.scope [(("table":ak),ρ ib),(("doctypes":ak),ρ ia)] doc ((mg "__name__").getD .none) c' om),toks:=tk}:=λh' om doc c' tk w' bD ⟨m,el⟩ dv uD DI=>by
  generalize xt:fnMade "told" cH.qual ps cH.body cH.scope [(("table":ak),ρ ib),(("doctypes":ak),ρ ia)] doc ((mg "__name__").getD .none) c' om=fo;have kp:∀b o,h'.get? b=some o->(h'.push fo).get? b=some o:=λb o e=>dF _ e;obtain hg: (h'.push fo).get? h'.objs.size=some fo:=hW _ (by rw[<- xt];rfl);have wN: W w.params K fs (up ρ σ.length h'.objs.size) (σ++[.told ia ib]) (h'.push fo):=by
   refine w'.one kp dv (bc _) (SA (tH i1) (tH j1) fo (fnX "told" cH.qual ps cH.body cH.scope [(("table":ak),ρ ib),(("doctypes":ak),ρ ia)] .none .none doc ((mg "__name__").getD .none) none (.ref c') om) hg (by rw[<- xt]) (by rw[<- xt]) ?_);rw[fV i1,fV j1];refine mh DI ?_;rintro oc xs t q1 q2 q3 q4;refine⟨rfl,rfl,λx=>?_,rfl,rfl,d4,d5,rfl,c',oc,xs,t,rfl,kp _ _ q1,q2,q3,q4⟩;rw[gh,gh,List.lookup_nil];by_cases z1:x="doctypes"
   ·subst z1;rfl
   ·by_cases z2:x="table"
    ·clear z1;subst z2;rfl
    ·obtain n1:=beq_eq_false_iff_ne.mpr z1;obtain n2:=beq_eq_false_iff_ne.mpr z2;rw[n1,n2,if_neg z1,if_neg z2]
  have sX:(σ++[O.told ia ib]).length=σ.length+1:=by simp
  obtain stN: bL [ah.locals] (aI fs) ρ σ.length s.heap (up ρ σ.length h'.objs.size) (σ++[O.told ia ib]).length (h'.push fo):=by
   rw[sX];exact bD.trans (.one kp (get_none (bc _)))
  have Mh:(h'.push fo).Ns ah.locals m:=el.push _;have NL:∀i,i<(σ++[O.told ia ib]).length->up ρ σ.length h'.objs.size i≠ah.locals:=λi hi=>by
   rw[sX]at hi;by_cases z:i<σ.length
   ·rw[fV z];exact cx.e.ap i z
   ·obtain af: i=σ.length:=by lia
    clear hi z;subst af;rw[fX];exact rN uD
  have AK:=cx.e.kl _ (by rw[jN];exact kD.1);refine Be AK Mh (λh2 xy NF=>?_) (by rw[cx.e.k];rfl);refine dG (id Mh) ?_;rintro o es ep ho hd _;refine dG (id xy) ?_;rintro o' fu Oj mC dZ _;obtain w2:= wN.loc cx.e.lo NL ho hd mC dZ NF;obtain bF:= stN.trans (.at NF ⟨_,mC⟩ (.head _));refine vw ?_;show wpAny _ _ (standAt p2>>=λZ=>eval (.Name "told" p1) ah>>=λv=>pure (Flow.ret v)) _ _ _;refine aF (jl (aF (vU (Bg cx.e.k AK xy (if_pos rfl) ?_) (by decide))));refine bq ?_;refine(hq (up ρ σ.length h'.objs.size) {s with heap:=h2,toks:=tk+1} w2 bF rfl rfl).1 _ rfl _ ⟨.ret (.ref σ.length),U,rfl,(aP _ rfl ?_),?_,rfl⟩
  ·refine⟨by rw[sX];exact mP _,by rw[fX]⟩
  ·obtain ee:=cx.e;refine⟨ee.k,ee.g,ee.b,(aP _ xy (λx v q=>?_)),ee.lo,NL,ee.kl,ee.kg,λx i q1 q2=>?_,ee.kk,ee.nm⟩
   ·rw[EL]at q;exact nS q
   ·refine fp (ee.kc x i q1 q2) ?_;rintro a b c;exact(dg (by rw[sX];exact tH a) b (by rw[fV a];exact c))
 refine vw (nestDef_K d1 d2 (d3 ah) ?_);rw[VQ];refine aO cx.e.ns ?_;rintro m el _;have hN:=cx.w.sz cx.rm.ne;obtain Ze: ah.locals≠TT:=λz=>absurd (z▸cx.e.lo) (by decide);have uD:=el.lt;obtain ZD: TT∉aI fs:=λm=>absurd (cx.w.fr.ne m).1 (by decide);refine aG hT ?_ (Qy ?_)
 ·rintro rfl;refine Rh (mg:=mg) oh cx.e.g g1 (e2.trans c1) hC ht trivial rfl rq ND λc' om doc h' tk hx A3 gY wL uO iX=>?_;refine Cs wL ?_;clear wL;rintro aal oc xs t q1 q2 q3 q4;cases q1;have q5:oc.cls=.type "code":=by
   refine aO uO ?_;rintro o z1 z2;rw[q2]at z1;(revert z2;refine aT z1 ?_;intro z2);exact z2
  obtain w':= cx.w.Et hx ⟨_,iX,.inr (oP c' oc xs t rfl q2 q5 q3 q4)⟩;obtain bD: bL [ah.locals] (aI fs) ρ σ.length s.heap ρ σ.length h':=.Et hx ⟨_,iX⟩ ZD;exact fin h' om doc c' tk w' bD ⟨m,el.extBut hx Ze⟩ (bC hN (ky (tD A3 gY))) (fK uD (ky (tD A3 gY))) (oW oc xs t q2 q5 q3 q4)
 ·rintro c' o' xs t hv q2 q3 q4 q5;subst hv;refine makeFunction_hit (mg:=mg) (cv:=.ref c') oh cx.e.g g1 (e2.trans c1) hC ht (by trivial) (by simp[codeAmong,rawInt]) ND λom doc h' tk hk dv=>?_;obtain w':= cx.w.grow hk;obtain bD: bL [ah.locals] (aI fs) ρ σ.length s.heap ρ σ.length h':=.grow hk;exact fin h' om doc c' tk w' bD ⟨m,el.keeps hk⟩ (bC hN dv) (fK uD dv) (oW o' xs t (hk _ _ q2) q3 q4 q5)
set_option tactic.hygienic true in
theorem Rw (T:EB K):∀a g,cG a=some g->∀{A fs L ρ σ s} (d:Nat) (av:List V) (vs:List az),Rm A fs d->W w.params K fs ρ σ s.heap->aW s.heap ρ σ.length av vs->kI (model au w) A w.params K fs L ρ σ s (g d av) (.call (.ref a) ⟨vs,[]⟩):=by
 intro a g hg A fs L ρ σ s d av vs rm hw hv;unfold cG at hg;split at hg
 ·rename_i q;obtain af:= eS q;clear q;subst af;(refine aT hg ?_)
  match d,av with
  | 0,_=>exact λr aj e=>by exact nS e
  |d'+1,[]=>exact λr aj e=>by exact nS e
  |d'+1,[_]=>exact λr aj e=>by exact nS e
  |d'+1,[t,l] =>
   rw[Q8];exact Ck T.fn (λcx h1 h2=>Rt T cx h1 h2) rm.q (hw.sz rm.ne) hw hv
  |d'+1,_::_::_::_=>exact λr aj e=>by exact nS e
 ·exact nS hg
end
end Zq
namespace Zq
open PySem PySem.W PySem.Calls PyProof.Rows
mutual
noncomputable def j8 (g:Nat->Nat):V->V
 |.ref i=>.ref (g i)
 |.fj a i=>.fj a (g i)
 |.tup l=>.tup (eU g l)
 |.none=>.none
 |.bool b=>.bool b
 |.int i=>.int i
 |.str s=>.str s
 |.fn a=>.fn a
 |.cls a=>.cls a
 |.bi b=>.bi b
 |.cm n=>.cm n
 |.gG l=>.gG l
noncomputable def eU (g:Nat->Nat):List V->List V
 |[]=>[]
 |v::l=>j8 g v::eU g l
end
mutual
noncomputable def k8 (al:Nat->Bool):V->Bool
 |.ref i=>al i
 |.fj _ i=>al i
 |.tup l=>dq al l
 |_=>true
noncomputable def dq (al:Nat->Bool):List V->Bool
 |[]=>true
 |v::l=>k8 al v&&dq al l
end
noncomputable def sJ (g:Nat->Nat):List (ak×V)->List (ak×V)
 |[]=>[]
 |p::l=>(p.1,j8 g p.2)::sJ g l
noncomputable def nG (al:Nat->Bool):List (ak×V)->Bool
 |[]=>true
 |p::l=>k8 al p.2&&nG al l
noncomputable def iw (g:Nat->Nat):O->O
 |.inst C d=>.inst C (g d)
 |.dict l=>.dict (sJ g l)
 |.list l=>.list (eU g l)
 |.cell none=>.cell none
 |.cell (some v)=>.cell (some (j8 g v))
 |.told a b=>.told (g a) (g b)
noncomputable def ji (al:Nat->Bool):O->Bool
 |.inst _ d=>al d
 |.dict l=>nG al l
 |.list l=>dq al l
 |.cell none=>true
 |.cell (some v)=>k8 al v
 |.told a b=>al a&&al b
section
variable {h:bf}{ρ aJ:Nat->ax}{n n':Nat}{g:Nat->Nat}{al:Nat->Bool}
mutual
theorem VR.ou (hg:∀i,al i=true->i<n->g i<n'/\aJ (g i)=ρ i):∀{v:V} {x:az},k8 al v=true->VR h ρ n v x->VR h aJ n' (j8 g v) x
 |.none,_,_,e=>e
 |.bool _,_,_,e=>e
 |.int _,_,_,e=>e
 |.str _,_,_,e=>e
 |.ref i,_,o,e=>by
  refine oA (hg i o e.1) ?_;rintro a b;show VR h aJ n' (.ref (g i)) _;exact⟨a,by rw[b];exact e.2⟩
 |.fn _,_,_,e=>e
 |.cls _,_,_,e=>e
 |.bi _,_,_,e=>e
 |.tup l,_,o,e=>by
  refine dG e ?_;clear e;rintro a ys c e1 e2 e3;show VR h aJ n' (.tup (eU g l)) _;exact(ik a ys c e1 e2 (aW.ou hg o e3))
 |.fj f i,_,o,e=>by
  refine cy e ?_;clear e;rintro a e1 e2 e3;refine oA (hg i o e2) ?_;rintro q1 q2;show VR h aJ n' (.fj f (g i)) _;exact(cO a e1 q1 (by rw[q2];exact e3))
 |.cm c,_,_,e=>e
 |.gG c,_,_,e=>e
theorem aW.ou (hg:∀i,al i=true->i<n->g i<n'/\aJ (g i)=ρ i):∀{l:List V} {ys:List az},dq al l=true->aW h ρ n l ys->aW h aJ n' (eU g l) ys
 |[],_,_,e=>e
 |v::l,_,o,e=>by
  dsimp only[dq]at o;rw[cc]at o;refine cj e ?_;clear e;rintro y r e1 e2 e3;show aW h aJ n' (j8 g v::eU g l) _;exact(ey y r e1 (VR.ou hg o.1 e2) (aW.ou hg o.2 e3))
end
mutual
theorem VR.n6 (hg:∀i,al i=true->i<n/\ρ i=aJ (g i)):∀{v:V} {x:az},k8 al v=true->VR h aJ n' (j8 g v) x->VR h ρ n v x
 |.none,_,_,e=>e
 |.bool _,_,_,e=>e
 |.int _,_,_,e=>e
 |.str _,_,_,e=>e
 |.ref i,_,o,e=>by
  have e:VR h aJ n' (.ref (g i)) _:=e;dsimp only[VR]at e ⊢;refine oA (hg i o) ?_;rintro a b;exact⟨a,by rw[b];exact e.2⟩
 |.fn _,_,_,e=>e
 |.cls _,_,_,e=>e
 |.bi _,_,_,e=>e
 |.tup l,_,o,e=>by
  have e:VR h aJ n' (.tup (eU g l)) _:=e;dsimp only[VR]at e ⊢;refine dG e ?_;clear e;rintro a ys c e1 e2 e3;exact(ik a ys c e1 e2 (aW.n6 hg o e3))
 |.fj f i,_,o,e=>by
  have e:VR h aJ n' (.fj f (g i)) _:=e;dsimp only[VR]at e ⊢;refine cy e ?_;clear e;rintro a e1 e2 e3;refine oA (hg i o) ?_;rintro q1 q2;exact(cO a e1 q1 (by rw[q2];exact e3))
 |.cm c,_,_,e=>e
 |.gG c,_,_,e=>e
theorem aW.n6 (hg:∀i,al i=true->i<n/\ρ i=aJ (g i)):∀{l:List V} {ys:List az},dq al l=true->aW h aJ n' (eU g l) ys->aW h ρ n l ys
 |[],_,_,e=>e
 |v::l,_,o,e=>by
  dsimp only[dq]at o;rw[cc]at o;have e:aW h aJ n' (j8 g v::eU g l) _:=e;dsimp only[aW]at e ⊢;refine cj e ?_;clear e;rintro y r e1 e2 e3;exact(ey y r e1 (VR.n6 hg o.1 e2) (aW.n6 hg o.2 e3))
end
theorem wc:∀{l},lk x (sJ g l)=(lk x l).map (j8 g)
 |[]=>rfl
 |p::l=>by
  show lk x ((p.1,j8 g p.2)::sJ g l)=_;rw[fA,fA,wc];skip;split<;>rfl
theorem Dg:∀{l},nG al l=true->lk x l=some v->k8 al v=true
 |[],_,e=>by exact nS e
 |p::l,o,e=>by
  dsimp only[nG]at o;rw[cc]at o;rw[fA]at e;split at e
  ·(refine aT e ?_;clear e v);exact o.1
  ·exact Dg o.2 e
theorem Cz:∀(l:List (ak×V)),(sJ g l).length=l.length
 |[]=>rfl
 |_::l=>congrArg (·+1) (Cz l)
theorem OR.ou (hg:∀i,al i=true->i<n->g i<n'/\aJ (g i)=ρ i)(k:ji al o=true)(e:OR P h ρ n a o):OR P h aJ n' a (iw g o):=by
 induction o with
 |inst C d =>
  refine oA e ?_;rintro e1 e2;refine oA (hg d k e1) ?_;rintro q1 q2;exact⟨q1,by rw[q2];exact e2⟩
 |dict l =>
  refine dc e ?_;rintro es c e1 e2;refine⟨es,c,e1,e2.k,λx v q=>?_,λx q=>?_,by rw[Cz];exact e2.len,e2.nd⟩
  ·rw[wc]at q;refine aO (mO.mp q) ?_;clear q;rintro u q1 rfl;refine aO (e2.s x u q1) ?_;rintro en a b;exact(aP en a (b.ou hg (Dg k q1)))
  ·rw[wc]at q;exact e2.z x (u7.mp q)
 |list l=>refine dc e ?_;rintro ys c e1 e2;exact(cF ys c e1 (e2.ou hg k))
 |cell v =>
  refine aO e ?_;clear e;rintro x e1 e2;induction v with
  |none =>
   induction x with
   |none=>exact(aP none e1 trivial)
   |some x=>exact e2.elim
  |some v =>
   induction x with
   |none=>exact e2.elim
   |some x=>exact(aP (some x) e1 (VR.ou hg k e2))
 |told c1 c2 =>
  refine fp e ?_;rintro e1 e2 e3;unfold ji at k;rw[cc]at k;refine oA (hg c1 k.1 e1) ?_;rintro q1 q2;refine oA (hg c2 k.2 e2) ?_;rintro q3 q4;exact(dg q1 q3 (by rw[q2,q4];exact e3))
theorem OR.n6 (hg:∀i,al i=true->i<n/\ρ i=aJ (g i))(k:ji al o=true)(e:OR P h aJ n' a (iw g o)):OR P h ρ n a o:=by
 induction o with
 |inst C d =>
  refine oA e ?_;rintro e1 e2;refine oA (hg d k) ?_;rintro q1 q2;exact⟨q1,by rw[q2];exact e2⟩
 |dict l =>
  refine dc e ?_;rintro es c e1 e2;refine⟨es,c,e1,e2.k,λx v q=>?_,λx q=>e2.z x (by rw[wc,q];rfl),by rw[<- Cz (g:=g)];exact e2.len,e2.nd⟩;refine aO (e2.s x (j8 g v) (by rw[wc,q];rfl)) ?_;rintro en a b;exact(aP en a (b.n6 hg (Dg k q)))
 |list l=>refine dc e ?_;rintro ys c e1 e2;exact(cF ys c e1 (e2.n6 hg k))
 |cell v =>
  induction v with
  |none =>
   refine aO e ?_;rintro x e1 e2;induction x with
   |none=>exact(aP none e1 trivial)
   |some x=>exact e2.elim
  |some v =>
   refine aO e ?_;rintro x e1 e2;induction x with
   |none=>exact e2.elim
   |some x=>exact(aP (some x) e1 (VR.n6 hg k e2))
 |told c1 c2 =>
  refine fp e ?_;rintro e1 e2 e3;unfold ji at k;rw[cc]at k;refine oA (hg c1 k.1) ?_;rintro q1 q2;refine oA (hg c2 k.2) ?_;rintro q3 q4;exact(dg q1 q3 (by rw[q2,q4];exact e3))
end
noncomputable def wZ:Rs V->Rs An
 |.ok v=>.ok (.v v)
 |.exc=>.exc
noncomputable def qL (g:Nat->Nat):Rs V->Rs V
 |.ok v=>.ok (j8 g v)
 |.exc=>.exc
structure Vh (P:PE)(Γ:ax->Option (Nat->List V->Mo V))(a:ax)(d:Nat)(av:List V)(σ:Sg)(r:Rs V)(aj:Sg)
 (ds k:Nat) (dm τ:Sg) (as:List V) (rs:Rs V) (g:Nat->Nat) (al:Nat->Bool):Prop where
 dd:ds<=d
 rn:run P Γ k (.ca ds (.fn a) as) dm=some (wZ rs,τ)
 lo:∀i,i<dm.length->al i=true/\g i<σ.length
 hi:∀i,al i=true->i<τ.length/\g i<aj.length/\(dm.length<=i->σ.length<=g i)
 inj:∀i j,al i=true->al j=true->g i=g j->i=j
 ob:∀i o,ay dm i=some o->ji (λj=>cE j dm.length) o=true/\ay σ (g i)=some (iw g o)
 ar:av=eU g as
 ao:dq (λj=>cE j dm.length) as=true
 re:r=qL g rs
 ro:∀v,rs=.ok v->k8 al v=true
 le:σ.length<=aj.length
 nw:∀i,i<aj.length->(∃j o,al j=true/\g j=i/\(dm.length<=j->σ.length<=i)/\ay τ j=some o/\ji al o=true/\ay aj i=some (iw g o))\/(i<σ.length/\(∀j,j<dm.length->g j≠i)/\ay aj i=ay σ i)
noncomputable def sP (P:PE)(Γ:ax->Option (Nat->List V->Mo V))(a:ax)(d:Nat)(av:List V)(σ:Sg)(r:Rs V)(aj:Sg):Prop :=
 ∃ds k dm τ as rs g al,Vh P Γ a d av σ r aj ds k dm τ as rs g al
section
variable {au:cB}{w:bw}{K:bz}{P:PE}{Γ:ax->Option (Nat->List V->Mo V)}{A:bZ}{fs:List a9}{L:ax}{ρ:Nat->ax}{σ aj:Sg}{s:aN}
theorem Rm.down (rm:Rm A fs d)(h:d'<=d):Rm A fs d':=⟨rm.fr,rm.ne,by have af:=rm.dep;lia,by have af:=rm.un;lia,rm.hn⟩
theorem RP (O:OkT au w K P Γ)(J:sP P Γ a d av σ r aj)(rm:Rm A fs d)(hw:W w.params K fs ρ σ s.heap)(hv:aW s.heap ρ σ.length av vs) (hq:∀aJ s',W w.params K fs aJ aj s'.heap->bL [] (aI fs) ρ σ.length s.heap aJ aj.length s'.heap->s'.gens=s.gens->s'.os=s.os ->
 (∀v,r=.ok v->∀x,VR s'.heap aJ aj.length v x->R (.ok (.ret x)) s')/\(r=.exc->∀e,et s.heap L s'.heap e->R (.error e) s')):codeAny (model au w) A (.call (.ref a) ⟨vs,[]⟩) R s:=by
 refine Ia J ?_;rintro ds k dm τ as rs g al J;obtain gY:∀{i n:Nat},cE i n=true->i<n:=λh=>fK (mP _) (dA h);have small:W w.params K fs (λi=>ρ (g i)) dm s.heap:=by
  refine⟨⟨λi o e=>?_,λi j hi hj e=>?_,λi hi=>hw.hr.hi _ (J.lo i hi).2⟩,hw.ba,⟨λah he=>?_,hw.fr.nd⟩⟩
  ·refine oA (J.ob i o e) ?_;rintro q1 q2;exact OR.n6 (aJ:=ρ) (g:=g) (al:=λj=>cE j dm.length) (λj hj=>⟨gY hj,rfl⟩) q1 (hw.hr.ob _ _ q2)
  ·exact J.inj i j (J.lo i hi).1 (J.lo j hj).1 (hw.hr.inj _ _ (J.lo i hi).2 (J.lo j hj).2 e)
  ·refine v7 (hw.fr.ff ah he) ?_;rintro fo L o h1 h2 h3 h4;exact(Ki fo L o h1 h2 (λi hi=>h3 _ (J.lo i hi).2) h4)
 obtain rk: aW s.heap (λi=>ρ (g i)) dm.length as vs:=by
  have af:=hv;rw[J.ar]at af;exact aW.n6 (aJ:=ρ) (g:=g) (al:=λj=>cE j dm.length) (λj hj=>⟨gY hj,rfl⟩) J.ao af
 have e1: sV (run P Γ k) (.ca ds (.fn a) as) dm=some (rs,τ):=by
  unfold sV bd;rw[J.rn];clear J;induction rs<;>rfl
 refine(BS O k).cf (L:=L) ds a as vs (rm.down J.dd) small rk rs τ e1 R λxu s' W' St g1 g2=>?_
 classical
 have zV:∀i,σ.length<=i->i<aj.length->∃j,al j=true/\g j=i:=λi h1 h2=>by
  refine aG (J.nw i h2) (VP ?_) (kA ?_)
  ·rintro j o q1 q2 _;exact(aP j q1 q2)
  ·rintro q _;lia
 let aJ:Nat->ax:=λi=>if i<σ.length then ρ i else if h:σ.length<=i/\i<aj.length then xu (Hv (zV i h.1 h.2)) else ρ i
 have r1:∀i,i<σ.length->aJ i=ρ i:=λi hi=>if_pos hi;have rg:∀j,al j=true->aJ (g j)=xu j:=λj hj=>by
  refine fp (J.hi j hj) ?_;rintro j1 j2 j3;by_cases z:j<dm.length
  ·rw[r1 _ (J.lo j z).2,St.ext j z]
  ·obtain z2:=j3 (eN z);obtain z3:=d8.mpr z2;show(if g j<σ.length then ρ (g j) else if h:σ.length<=g j/\g j<aj.length then xu (Hv (zV (g j) h.1 h.2)) else ρ (g j))=_;rw[if_neg z3,dif_pos ⟨z2,j2⟩];obtain hc:=Pl (zV (g j) z2 j2);rw[J.inj _ _ hc.1 hj hc.2]
 have MM:∀i,al i=true->i<τ.length->g i<aj.length/\aJ (g i)=xu i:=λi h1 Z=>⟨(J.hi i h1).2.1,rg i h1⟩;obtain kp: Kp s.heap ρ σ.length s'.heap aJ aj.length:=⟨J.le,r1,(small.kp St (λZ h=>nomatch h) λZ h=>h).kf,(small.kp St (λZ h=>nomatch h) λZ h=>h).NX⟩;obtain Zt: ∀i,i<σ.length->(∀j,j<dm.length->g j≠i)->∀o,s.heap.get? (ρ i)=some o->s'.heap.get? (ρ i)=some o:=λi hi hj o e=>by
  refine St.keep _ _ e (λj fF z=>?_) (λh=>nomatch h) (λm=>(hw.fr.ne m).2 i hi rfl) λz=>absurd (z▸hw.hr.hi i hi) (by decide);exact hj j fF (hw.hr.inj _ _ (J.lo j fF).2 hi z.symm)
 have uq:∀i,σ.length<=i->i<aj.length->∃j,al j=true/\g j=i/\dm.length<=j:=λi h1 h2=>by
  refine aO (zV i h1 h2) ?_;rintro j q1 q2;refine(cO j q1 q2 (eN λz=>?_));obtain af:= (J.lo j z).2;lia
 obtain W2: W w.params K fs aJ aj s'.heap:=by
  refine⟨⟨λi o e=>?_,λi j hi hj e=>?_,λi hi=>?_⟩,W'.ba,⟨λah he=>?_,W'.fr.nd⟩⟩
  ·rcases J.nw i (bK e) with ⟨j,o',q1,q2,_,q3,q4,q5⟩|⟨q1,q2,q3⟩
   ·rw[e]at q5;(clear e;refine dP q5 ?_);rw[<- q2,rg j q1];exact(W'.hr.ob j _ q3).ou MM q4
   ·rw[q3]at e;rw[r1 i q1];exact(hw.hr.ob i o e).kp kp λx hx=>Zt i q1 q2 x hx
  ·-- two names of one object
   obtain old:∀i,i<σ.length->∀j,al j=true->dm.length<=j->ρ i≠xu j:=λi hi j hj hn z=>by
    obtain h1:= St.new j hn (J.hi j hj).1;refine oE (hw.at hi) ?_;rintro o h2;rw[z,h1]at h2;exact nS h2
   by_cases zi:i<σ.length
   ·by_cases zj:j<σ.length
    ·rw[r1 i zi,r1 j zj]at e;exact hw.hr.inj i j zi zj e
    ·refine cy (uq j (eN zj) hj) ?_;rintro y y1 y2 y3;clear hj zj;subst y2;rw[r1 i zi,rg y y1]at e;exact absurd e (old i zi y y1 y3)
   ·refine cy (uq i (eN zi) hi) ?_;rintro x x1 x2 x3;clear hi zi;subst x2;by_cases zj:j<σ.length
    ·rw[r1 j zj,rg x x1]at e;exact absurd e.symm (old j zj x x1 x3)
    ·refine cy (uq j (eN zj) hj) ?_;rintro y y1 y2 y3;clear hj zj;subst y2;rw[rg x x1,rg y y1]at e;rw[W'.hr.inj x y (J.hi x x1).1 (J.hi y y1).1 e]
  ·by_cases zi:i<σ.length
   ·rw[r1 i zi];exact hw.hr.hi i zi
   ·refine cy (uq i (eN zi) hi) ?_;rintro x x1 x2 x3;clear hi zi;subst x2;rw[rg x x1];exact W'.hr.hi x (J.hi x x1).1
  ·refine kB (W'.fr.ff ah he) ?_;rintro fo L o h1 h2 h3 h4 h5;refine⟨fo,L,o,h1,h2,λi hi=>?_,h4,h5⟩;by_cases zi:i<σ.length
   ·rw[r1 i zi];refine v7 (hw.fr.ff ah he) ?_;rintro _ L' _ q1 _ q3 _;rw[h1]at q1;(revert a_2 q3 a_3;refine aT q1 ?_;intro a_2 q3 a_3);exact q3 i zi
   ·refine cy (uq i (eN zi) hi) ?_;rintro x x1 x2 x3;clear hi zi;subst x2;rw[rg x x1];exact h3 x (J.hi x x1).1
 obtain S2: bL [] (aI fs) ρ σ.length s.heap aJ aj.length s'.heap:=by
  refine⟨J.le,r1,λi h1 h2=>?_,St.live,λb o e h1 h2 h3 h4=>St.keep b o e (λj hj=>h1 _ (J.lo j hj).2) h2 h3 h4,St.slot⟩;refine cy (uq i h1 h2) ?_;rintro x x1 x2 x3;clear h1 h2;subst x2;rw[rg x x1];exact St.new x x3 (J.hi x x1).1
 refine oA (hq aJ s' W2 S2 g1 g2) ?_;rintro q1 q2;rw[J.re]at q1 q2;refine⟨λv pN x hx=>?_,λhx e he=>q2 (by rw[hx];rfl) e he⟩;clear e1 q2;subst pN;exact q1 (j8 g v) rfl x (hx.ou MM (J.ro v rfl))
open Classical in
noncomputable def fM (P:PE)(Γ:ax->Option (Nat->List V->Mo V))(a:ax)(qJ:Nat->List V->Mo V):Nat->List V->Mo V:=λd av σ=>match qJ d av σ with
 |none=>none
 |some p=>if sP P Γ a d av σ p.1 p.2 then some p else none
theorem oZ (h:qJ d av σ=some p)(J:sP P Γ a d av σ p.1 p.2):fM P Γ a qJ d av σ=some p:=by
 unfold fM;rw[h];exact if_pos J
theorem TQ (h:fM P Γ a qJ d av σ=some (r,aj)):sP P Γ a d av σ r aj:=by
 unfold fM at h;induction hw:qJ d av σ with
 |none=>rw[hw]at h;exact nS h
 |some p =>
  rw[hw]at h;dsimp only at h;split at h
  ·(refine dX h ?_);assumption
  ·exact nS h
theorem OkT.ext {Nq:ax->Option (Nat->List V->Mo V)}(O:OkT au w K P Γ)(h:∀a g,Nq a=some g->Γ a=some g\/(fnIn K a=true/\∃D0 qJ,OkT au w K P D0/\g=fM P D0 a qJ)):OkT au w K P Nq where
 po:=O.po
 fo:=⟨O.fo.fn,O.fo.gf,λa g hg A fs L ρ σ s d av vs rm hw hv=>by
  rcases h a g hg with h1|⟨_,D0,qJ,XD,rfl⟩
  ·exact O.fo.M3 a g h1 d av vs rm hw hv
  ·exact λr aj e R hq=>RP XD (TQ e) rm hw hv hq,O.fo.Ga⟩
 go:=λa g hg=>by
  refine aG (h a g hg) ?_ (kA ?_)
  ·rintro h1;exact O.go a g h1
  ·rintro h1 _;exact h1
 tr:=O.tr
 fl:=O.fl
 fc:=O.fc
 ga:=O.ga
 gt:=O.gt
end
end Zq
namespace Zq
open PySem
inductive Or where
 |b (x:Bool)|o (x:V)|a (x:Rs V) (aj:Sg)|j (x:Rs An) (aj:Sg)|go|n (x:Option (V×It))|m (v:V) (l:List V)|c (v:V)|s (aj:Sg)|l (l:List V)
abbrev Wm (α:Type):=Sg->List Or->(Rs α->Sg->List Or->Prop)->Prop
noncomputable def bV {α:Type}(a:α):Wm α:=λσ O Q=>Q (.ok a) σ O
noncomputable def bP {α:Type}:Wm α:=λZ Z Z=>False
noncomputable def aU {α β:Type}(m:Wm α)(f:α->Wm β):Wm β:=λσ O Q=>m σ O λr aj O'=>match r with
 |.ok a=>f a aj O' Q
 |.exc=>Q .exc aj O'
noncomputable def dk {α:Type}(m:Mo α):Wm α:=λσ O Q=>match m σ with
 |some (r,aj)=>Q r aj O
 |none=>False
noncomputable def pO (b:Bool):Wm Bool:=λσ O Q=>match O with
 |.b x::O'=>b=x/\Q (.ok x) σ O'
 |_=>False
noncomputable def iR (m:Mo V):Wm V:=λσ O Q=>match O with
 |.o x::O'=>m σ=some (.ok x,σ)/\Q (.ok x) σ O'
 |.a x aj::O'=>m σ=some (x,aj)/\Q x aj O'
 |_=>False
noncomputable def ot (f:Sg->Option α):Wm α:=dk (gt f)
section
variable (P:PE)(Γ:ax->Option (Nat->List V->Mo V))
noncomputable def bp (j:Jb)(σ:Sg)(r:Rs An)(aj:Sg):Prop:=∃n,∀m,n<=m->run P Γ m j σ=some (r,aj)
noncomputable def pT:Rs V->Rs An
 |.ok v=>.ok (.v v)
 |.exc=>.exc
noncomputable def LB (it:It):Wm (Option (V×It)):=λσ O Q=>match O with
 |.n x::O'=>fB it σ=some x/\Q (.ok x) σ O'
 |_=>False
noncomputable def DF (it:It):Wm (Option (V×It)):=match it with
 |.tup _=>dk (gt (fB it))
 |_=>LB it
noncomputable def EM (op:uc)(a b:V):Wm V:=match op,a,b with
 |.Add,.int _,.int _=>dk (gW op a b)
 |.Sub,.int _,.int _=>dk (gW op a b)
 |_,_,_=>iR (gW op a b)
noncomputable def Le (m:Mo Bool):Wm Bool:=λσ O Q=>match O with
 |.b x::O'=>m σ=some (.ok x,σ)/\Q (.ok x) σ O'
 |_=>False
noncomputable def zL (op:mw)(a b:V):Wm Bool:=match a with
 |.ref _=>(match b with
  |.ref _=>Le (fZ op a b)
  |_=>dk (fZ op a b))
 |_=>dk (fZ op a b)
noncomputable def Ln (o i:V):Wm V:=λσ O Q=>match O with
 |.c v::O'=>iu o i σ=some (.ok v,σ)/\Q (.ok v) σ O'
 |_=>dk (iu o i) σ O Q
noncomputable def Li (o i:V):Wm V:=match o with
 |.str _=>iR (iu o i)
 |.ref _=>iR (iu o i)
 |_=>Ln o i
noncomputable def Lv (b:Bi)(av:List V):Wm V:=match b with
 |.ord=>iR (cw b av)
 |.len=>iR (cw b av)
 |.chr=>iR (cw b av)
 |.sorted=>iR (cw b av)
 |.tuple=>iR (cw b av)
 |.split=>iR (cw b av)
 |.join=>iR (cw b av)
 |.lower=>iR (cw b av)
 |.replace=>iR (cw b av)
 |.append=>iR (cw b av)
 |.pop=>iR (cw b av)
 |_=>dk (cw b av)
noncomputable def FD (i:Nat):Wm (List V):=λσ O Q=>match O with
 |.l l::O'=>listAt i σ=some l/\Q (.ok l) σ O'
 |_=>ot (listAt i) σ O Q
noncomputable def ug (v:V):Wm It:=match v with
 |.cm n=>λσ O Q=>(0<=n/\n<=16777216)/\Q (.ok (.cm 0 n)) σ O
 |.ref i=>aU (FD i) λZ=>bV (.list i 0)
 |_=>dk (j7 v)
noncomputable def Ef (P:PE)(U:Fm)(x:ak):Wm V:=λσ O Q=>match O with
 |.c v::O'=>ig P U x σ=some (.ok v,σ)/\Q (.ok v) σ O'
 |_=>dk (ig P U x) σ O Q
noncomputable def FR (P:PE)(U:Fm)(x:ak):Wm V:=match bI x U.sc with
 |some .cell=>Ef P U x
 |some .free=>Ef P U x
 |_=>dk (ig P U x)
noncomputable def LS (U:Fm)(x:ak)(v:V):Wm Fm:=λσ O Q=>match O with
 |.s aj::O'=>gw U x v σ=some (.ok U,aj)/\Q (.ok U) aj O'
 |_=>dk (gw U x v) σ O Q
noncomputable def FC (U:Fm)(x:ak)(v:V):Wm Fm:=match bI x U.sc with
 |some .cell=>LS U x v
 |_=>dk (gw U x v)
noncomputable def DH (P:PE)(o:V)(x:ak):Wm (V×List V):=λσ O Q=>match O with
 |.m v l::O'=>mq P o x σ=some (.ok (v,l),σ)/\Q (.ok (v,l)) σ O'
 |_=>dk (mq P o x) σ O Q
variable (self:Jb->Wm An)
noncomputable def wE (U:Fm)(x:Expr):Wm V:=aU (self (.e U x)) λ
 |.v v=>bV v
 |_=>bP
noncomputable def mM (U:Fm)(x:List Expr):Wm (List V):=aU (self (.es U x)) λ
 |.vs v=>bV v
 |_=>bP
noncomputable def wT (U:Fm)(x:Expr):Wm Bool:=aU (self (.t U x)) λ
 |.b v=>bV v
 |_=>bP
noncomputable def wV (j:Jb):Wm V:=aU (self j) λ
 |.v v=>bV v
 |_=>bP
noncomputable def wB (j:Jb):Wm Bool:=aU (self j) λ
 |.b v=>bV v
 |_=>bP
noncomputable def wF (j:Jb):Wm (Fl×Fm):=aU (self j) λ
 |.f fl U=>bV (fl,U)
 |_=>bP
noncomputable def DZ (U:Fm):Option Expr->Wm (Option V)
 |none=>bV none
 |some x=>aU (wE self U x) λv=>bV (some v)
noncomputable def KA (U:Fm)(e:Expr):Wm V:=eD e bP
 (yo:=λc Z Z=>dk (aX (Di c)))
 (nh:=λx Z=>FR P U x)
 (vY:=λop xs Z=>wV self (.bo U op xs))
 (we:=λl op r Z=>aU (wE self U l) λa=>aU (wE self U r) λb=>EM op a b)
 (vT:=λop x Z=>match op with
  |.Not=>aU (wE self U x) λa=>aU (ot (truth a)) λb=>bV (.bool !b)
  |.USub=>aU (wE self U x) λa=>(match a with
   |.int i=>bV (.int (-i))
   |_=>bP)
  |_=>bP)
 (v9:=λt b o Z=>aU (wT self U t) λc=>aU (pO c) λc=>(match c with
  |true=>wE self U b
  |false=>wE self U o))
 (rO:=λl bW xs Z=>aU (wE self U l) λa=>wV self (.ch U a bW xs))
 (qC:=λf av kw pos=>match kw with
  |_::_=>bP
  |[]=>eD f bP
   (qh:=λo x apos=>match nY o apos pos av with
    |false=>bP
    |true=>aU (wE self U o) λov=>aU (DH P ov x) λfv=>aU (mM self U av) λvs=>aU (ot (callable P Γ fv.1)) λZ=>wV self (.ca U.d fv.1 (fv.2++vs)))
   (nh:=λf p=>match noStar av with
    |false=>bP
    |true=>aU (wE self U (.Name f p)) λfv=>aU (mM self U av) λvs=>aU (ot (callable P Γ fv)) λZ=>wV self (.ca U.d fv vs)))
 (qh:=λo x Z=>match mR o with
  |false=>bP
  |true=>aU (wE self U o) λov=>dk (sg P ov x))
 (vE:=λo i Z=>eD i (aU (wE self U o) λov=>aU (wE self U i) λiv=>Li ov iv)
  (y8:=λlo hi st Z=>match st with
   |none=>aU (wE self U o) λov=>aU (DZ self U lo) λa=>aU (DZ self U hi) λb=>iR (js ov a b)
   |some _=>bP))
 (qw:=λxs Z Z=>aU (mM self U xs) λl=>match fits l.length with|true=>bV (.tup l)|false=>bP)
 (DG:=λxs Z=>aU (mM self U xs) λl=>match fits l.length with|true=>aU (dk (al (.list l))) λk=>bV (.ref k)|false=>bP)
 (DA:=λks vs Z=>match ks with
  |[]=>(match vs with
   |[]=>aU (dk (al (.dict []))) λk=>bV (.ref k)
   |_::_=>bP)
  |_::_=>bP)
 (tP:=λelt gs sc Z=>match gs with
  |[⟨nX,iter,ifs,0⟩]=>(match nZ U sc iter with
   |true=>aU (wE self U iter) λv=>aU (ug v) λit=>aU (dk (al (.list []))) λk =>
   λσ O Q =>
   wV self (.cp {sc:=sc,loc:=[],cz:=U.cz,d:=U.d,ro:=[]} elt nX ifs it k) σ O λr aj O'=>match r with
    |.ok v=>Q (.ok v) aj O'
    |.exc=>False
   |false=>bP)
  |_=>bP)
noncomputable def K0 (U:Fm)(e:Expr):Wm Bool:=eD e (aU (wE self U e) λv=>ot (truth v))
 (vT:=λop x Z=>match op with
  |.Not=>aU (wT self U x) λb=>bV (!b)
  |_=>aU (wE self U e) λv=>ot (truth v))
 (vY:=λop xs Z=>wB self (.ts U op xs))
 (v9:=λt b o Z=>aU (wT self U t) λc=>aU (pO c) λc=>(match c with
  |true=>wT self U b
  |false=>wT self U o))
 (rO:=λl bW xs Z=>aU (wE self U l) λa=>aU (wV self (.ch U a bW xs)) λv=>ot (truth v))
noncomputable def tX (U:Fm)(v:V)(e:Expr):Wm Fm:=eD e bP
 (nh:=λx Z=>FC U x v)
 (qh:=λo x Z=>aU (wE self U o) λov=>aU (dk (Dv P ov x v)) λZ=>bV U)
 (vE:=λo i Z=>aU (wE self U o) λov=>aU (wE self U i) λiv=>aU (iR (bd (mZ ov iv v) λZ=>rt .none)) λZ=>bV U)
 (qw:=λxs Z Z=>aU (dk (aX (namesOf xs))) λns=>match v with
  |.tup l=>(match fb ns l with
   |true=>dk (fC U ns l)
   |false=>bP)
  |.ref i=>aU (FD i) λl=>(match fb ns l with
   |true=>dk (fC U ns l)
   |false=>bP)
  |_=>bP)
noncomputable def Dn (U:Fm)(s:bO):Wm (Fl×Fm):=sD s bP
 (Ed:=λx Z=>match iN x with
  |true=>bP
  |false=>aU (wE self U x) λZ=>bV (.next,U))
 (Ea:=λZ=>bV (.next,U))
 (Dj:=λZ=>bV (.brk,U))
 (v8:=λx Z=>match x with
  |none=>bP
  |some x=>aU (wE self U x) λv=>bV (.ret v,U))
 (vZ:=λts x Z=>match ts with
  |[t]=>(match iN x||oX t x with
   |true=>bP
   |false=>aU (wE self U x) λv=>aU (tX P self U v t) λU=>bV (.next,U))
  |_=>bP)
 (Av:=λt b o Z=>aU (wT self U t) λc=>aU (pO c) λc=>(match c with
  |true=>wF self (.ss U b)
  |false=>wF self (.ss U o)))
 (zb:=λt b o Z=>match o with
  |[]=>wF self (.wh U t b)
  |_::_=>bP)
 (kFor:=λt i b o Z=>match o with
  |[]=>(match gv i with
   |true=>bP
   |false=>aU (wE self U i) λv=>aU (ug v) λit=>wF self (.fo U t it b))
  |_::_=>bP)
 (zf:=λx c Z=>match c with
  |some _=>bP
  |none=>(match x with
   |none=>bP
   |some x=>eD x bP (qC:=λf av kw Z=>match kw with
    |_::_=>bP
    |[]=>eD f bP (nh:=λc p=>match noStar av with
     |false=>bP
     |true=>aU (wE self U (.Name c p)) λcv=>(match jV P cv with
      |false=>bP
      |true=>aU (mM self U av) λvs=>dk (ml vs))))))
 (zU:=λb hs o f Z=>match o with
  |[]=>(match f with
   |[]=>λσ O Q=>wF self (.ss U b) σ O λr aj O'=>match r with
    |.ok a=>Q (.ok a) aj O'
    |.exc=>dk (r0 P U hs) aj O' Q
   |_::_=>bP)
  |_::_=>bP)
noncomputable def Lk (fi:FI)(d':Nat)(av:List V):Wm V:=aU (dk (aX (jr fi.ps av fi.df))) λb =>
 aU (dk (mU b (dS fi.scope))) λcs =>
 aU (wF self (.ss {sc:=fi.scope,loc:=b.filter (λp=>!mi (dS fi.scope) p.1),cz:=cs,d:=d',ro:=fi.ro} fi.body)) λr=>(match r.1 with
  |.next=>bV .none
  |.ret v=>bV v
  |.brk=>bP)
noncomputable def EY (d:Nat)(a:ax)(av:List V):Wm V:=match Γ a with
 |some _=>bP
 |none=>(match P.fn a with
  |none=>bP
  |some fi=>(match d with
   | 0=>bP
   |d'+1=>Lk self fi d' av))
noncomputable def K9 (d:Nat)(a:ax)(av:List V):Wm V:=λσ O Q=>match O with
 |.o x::O'=>bp P Γ (.ca d (.fn a) av) σ (.ok (.v x)) σ/\Q (.ok x) σ O'
 |.a x aj::O'=>bp P Γ (.ca d (.fn a) av) σ (pT x) aj/\Q x aj O'
 |.go::O'=>EY P Γ self d a av σ O' Q
 |_=>False
noncomputable def JU (d:Nat)(f:V)(av:List V):Wm V:=match f with
 |.fn a=>K9 P Γ self d a av
 |.fj a i=>(match d with
  |d'+1=>wV self (.ca d' (.fn a) (.ref i::av))
  | 0=>bP)
 |.cls C=>(match P.gf C,d with
  |some a,d'+1=>aU (dk (al (.dict []))) λdx=>aU (dk (al (.inst C dx))) λx=>aU (wV self (.ca d' (.fn a) (.ref x::av))) λr=>(match r with
   |.none=>bV (.ref x)
   |_=>bP)
  |_,_=>bP)
 |.bi b=>Lv b av
 |_=>bP
noncomputable def D8:Jb->Wm An
 |.e U x=>aU (KA P Γ self U x) λv=>bV (.v v)
 |.es _ []=>bV (.vs [])
 |.es U (x::r)=>(match jX x with
  |true=>bP
  |false=>aU (wE self U x) λv=>aU (mM self U r) λl=>bV (.vs (v::l)))
 |.t U x=>aU (K0 self U x) λb=>bV (.b b)
 |.ts _ op []=>bV (.b (match op with|.And=>true|.Or=>false))
 |.ts U op (x::r)=>aU (wT self U x) λb=>aU (pO b) λb=>(match op,b with
  |.And,false=>bV (.b false)
  |.Or,true=>bV (.b true)
  |_,_=>self (.ts U op r))
 |.bo _ _ []=>bP
 |.bo U _ [x]=>aU (wE self U x) λv=>bV (.v v)
 |.bo U op (x::y::r)=>aU (wE self U x) λv=>aU (ot (truth v)) λb=>aU (pO b) λb=>(match op,b with
  |.And,false=>bV (.v v)
  |.Or,true=>bV (.v v)
  |_,_=>self (.bo U op (y::r)))
 |.ch U v [op] [x]=>(match gv x with
  |true=>bP
  |false=>aU (wE self U x) λr=>aU (zL op v r) λb=>bV (.v (.bool b)))
 |.ch U v (op::uN::bW) (x::xs)=>aU (wE self U x) λr=>aU (zL op v r) λb=>aU (pO b) λb=>(match b with
  |true=>self (.ch U r (uN::bW) xs)
  |false=>bV (.v (.bool false)))
 |.ch _ _ _ _=>bP
 |.s U x=>aU (Dn P self U x) λr=>bV (.f r.1 r.2)
 |.ss U []=>bV (.f .next U)
 |.ss U (x::r)=>aU (wF self (.s U x)) λq=>(match q.1 with
  |.next=>self (.ss q.2 r)
  |fl=>bV (.f fl q.2))
 |.wh U t b=>aU (wT self U t) λc=>aU (pO c) λc=>(match c with
  |false=>bV (.f .next U)
  |true=>aU (wF self (.ss U b)) λq=>(match q.1 with
   |.next=>self (.wh q.2 t b)
   |.brk=>bV (.f .next q.2)
   |.ret v=>bV (.f (.ret v) q.2)))
 |.fo U t it b=>aU (DF it) λo=>(match o with
  |none=>bV (.f .next U)
  |some (v,dQ)=>aU (tX P self U v t) λU=>aU (wF self (.ss U b)) λq=>(match q.1 with
   |.next=>self (.fo q.2 t dQ b)
   |.brk=>bV (.f .next q.2)
   |.ret v=>bV (.f (.ret v) q.2)))
 |.cp U elt t ifs it aA=>aU (DF it) λo=>(match o with
  |none=>bV (.v (.ref aA))
  |some (v,dQ)=>aU (tX P self U v t) λU=>aU (wB self (.ts U .And ifs)) λc=>aU (pO c) λc=>(match c with
   |true=>aU (wE self U elt) λr=>aU (iR (cw .append [.ref aA,r])) λZ=>self (.cp U elt t ifs dQ aA)
   |false=>self (.cp U elt t ifs dQ aA)))
 |.as U t v=>aU (tX P self U v t) λU=>bV (.f .next U)
 |.ca d f av=>aU (JU P Γ self d f av) λv=>bV (.v v)
noncomputable def Kw:Jb->Bool
 |.wh _ _ _=>true
 |.fo _ _ _ _=>true
 |.cp _ _ _ _ _ _=>true
 |_=>false
end
noncomputable def ux (P:PE)(Γ:ax->Option (Nat->List V->Mo V)):Nat->Jb->Wm An
 | 0,_=>bP
 |n+1,j=>match Kw j with
  |true=>λσ O Q=>(match O with
   |.go::O'=>D8 P Γ (ux P Γ n) j σ O' Q
   |.j r aj::O'=>bp P Γ j σ r aj/\Q r aj O'
   |_=>False)
  |false=>D8 P Γ (ux P Γ n) j
section
variable {P:PE}{Γ:ax->Option (Nat->List V->Mo V)}{α β:Type}
noncomputable def aE (P:PE)(Γ:ax->Option (Nat->List V->Mo V))(m:Wm α)(F:(Jb->Mo An)->Mo α):Prop:=∀σ O Q,m σ O Q->∃r aj O',(∃n,∀k,n<=k->F (run P Γ k) σ=some (r,aj))/\Q r aj O'
set_option tactic.hygienic true in
theorem aE.li:aE P Γ (dk m) λZ=>m:=λσ O Q h=>by
 unfold dk at h;induction e:m σ with
 |none=>rw[e]at h;exact False.elim h
 |some p=>rw[e]at h;exact(eJ p.1 p.2 O ⟨0,λZ Z=>e⟩ h)
theorem aE.rt {a:α}:aE P Γ (bV a) λZ=>rt a:=λσ O Q h=>(eJ (.ok a) σ O ⟨0,λZ Z=>rfl⟩ h)
theorem aE.no:aE P Γ bP F:=λσ O Q h=>h.elim
theorem aE.bd {m:Wm α}{F:(Jb->Mo An)->Mo α}{g:α->Wm β}{G:α->(Jb->Mo An)->Mo β}(h:aE P Γ m F)(k:∀a,aE P Γ (g a) (G a)):aE P Γ (aU m g) λsf=>bd (F sf) λa=>G a sf:=λσ O Q q=>by
 refine jI (h σ O _ q) ?_;rintro r bj O1 ⟨n1,e1⟩ q1;induction r with
 |exc=>exact(eJ (.exc) bj O1 ⟨n1,λk hk=>by show(Zq.bd (F (run P Γ k)) λa=>G a (run P Γ k)) σ=_;unfold Zq.bd;rw[e1 k hk]⟩ q1)
 |ok a =>
  refine jI (k a bj O1 Q q1) ?_;rintro r aY O2 ⟨n2,e2⟩ q2;exact(eJ r aY O2 ⟨max n1 n2,λk hk=>by show(Zq.bd (F (run P Γ k)) λa=>G a (run P Γ k)) σ=_;unfold Zq.bd;rw[e1 k (by lia)];exact e2 k (by lia)⟩ q2)
theorem aE.br {G:Bool->(Jb->Mo An)->Mo β}(k:∀a,aE P Γ (g a) (G a)):aE P Γ (aU (pO b) g) λsf=>G b sf:=λσ O Q q=>by
 induction O using aQ with
 |nil=>exact False.elim q
 |cons o O' =>
  induction o using Or.casesOn with
  |b c =>
   obtain q:_/\_:=q;refine oA q ?_;clear q;rintro rfl q;exact k _ _ _ _ q
  |_=>exact False.elim q
theorem aE.ask:aE P Γ (iR m) λZ=>m:=λσ O Q h=>by
 induction O using aQ with
 |nil=>exact False.elim h
 |cons o O' =>
  induction o using Or.casesOn with
  |o x=>obtain h:_/\_:=h;exact(eJ _ _ O' ⟨0,λZ Z=>h.1⟩ h.2)
  |a x aj=>obtain h:_/\_:=h;exact(eJ _ _ O' ⟨0,λZ Z=>h.1⟩ h.2)
  |_=>exact False.elim h
theorem aE.bin:aE P Γ (EM op a b) λZ=>gW op a b:=by
 induction op using Operator.casesOn<;>first
  |exact .ask
  |(induction a using V.casesOn<;>first|exact .ask|(induction b using V.casesOn<;>first|exact .ask|(unfold EM;exact .li)))
theorem aE.cmp:aE P Γ (zL op a b) λZ=>fZ op a b:=by
 obtain h:∀{m},aE P Γ (Le m) λZ=>m:=λσ O Q h=>by
  induction O using aQ with
  |nil=>exact False.elim h
  |cons o O' =>
   induction o using Or.casesOn with
   |b x=>obtain h:_/\_:=h;exact(eJ _ _ O' ⟨0,λZ Z=>h.1⟩ h.2)
   |_=>exact False.elim h
 induction a using V.casesOn with
 |ref i =>
  induction b using V.casesOn with
  |ref j=>exact h
  |_=>exact aE.li (m:=fZ _ _ _)
 |_=>exact aE.li (m:=fZ _ _ _)
theorem aE.item:aE P Γ (Li a b) λZ=>iu a b:=by
 obtain h:aE P Γ (Ln a b) λZ=>iu a b:=λσ O Q h=>by
  induction O using aQ with
  |nil=>exact aE.li (P:=P) (Γ:=Γ) (m:=iu a b) σ _ Q h
  |cons o O' =>
   induction o using Or.casesOn with
   |c v=>obtain h:_/\_:=h;exact(eJ _ _ O' ⟨0,λZ Z=>h.1⟩ h.2)
   |_=>exact aE.li (P:=P) (Γ:=Γ) (m:=iu a b) σ _ Q h
 induction a using V.casesOn<;>first|exact .ask|exact h
theorem aE.prim:aE P Γ (Lv b a) λZ=>cw b a:=by
 induction b using Bi.casesOn<;>first|exact .ask|exact .li
theorem aE.nm:aE P Γ (FR P U x) λZ=>ig P U x:=by
 have h:aE P Γ (Ef P U x) λZ=>ig P U x:=λσ O Q h=>by
  induction O using aQ with
  |nil=>exact aE.li (P:=P) (Γ:=Γ) (m:=ig P U x) σ _ Q h
  |cons o O' =>
   induction o using Or.casesOn with
   |c v=>have h:_/\_:=h;exact(eJ _ _ O' ⟨0,λZ Z=>h.1⟩ h.2)
   |_=>exact aE.li (P:=P) (Γ:=Γ) (m:=ig P U x) σ _ Q h
 unfold FR;induction bI x U.sc with
 |none=>exact .li
 |some k=>induction k<;>first|exact .li|exact h
theorem aE.st:aE P Γ (FC U x v) λZ=>gw U x v:=by
 have h:aE P Γ (LS U x v) λZ=>gw U x v:=λσ O Q h=>by
  induction O using aQ with
  |nil=>exact aE.li (P:=P) (Γ:=Γ) (m:=gw U x v) σ _ Q h
  |cons o O' =>
   induction o using Or.casesOn with
   |s aj=>have h:_/\_:=h;exact(eJ _ _ O' ⟨0,λZ Z=>h.1⟩ h.2)
   |_=>exact aE.li (P:=P) (Γ:=Γ) (m:=gw U x v) σ _ Q h
 unfold FC;induction bI x U.sc with
 |none=>exact .li
 |some k=>induction k<;>first|exact .li|exact h
theorem aE.fj:aE P Γ (DH P o x) λZ=>mq P o x:=λσ O Q h=>by
 induction O using aQ with
 |nil=>exact aE.li (P:=P) (Γ:=Γ) (m:=mq P o x) σ _ Q h
 |cons q O' =>
  induction q using Or.casesOn with
  |m v l=>obtain h:_/\_:=h;exact(eJ _ _ O' ⟨0,λZ Z=>h.1⟩ h.2)
  |_=>exact aE.li (P:=P) (Γ:=Γ) (m:=mq P o x) σ _ Q h
theorem aE.ls:aE P Γ (FD i) λZ=>gt (listAt i):=λσ O Q h=>by
 induction O using aQ with
 |nil=>exact aE.li (P:=P) (Γ:=Γ) (m:=gt (listAt i)) σ _ Q h
 |cons q O' =>
  induction q using Or.casesOn with
  |l l =>
   obtain h:_/\_:=h;exact(eJ _ _ O' ⟨0,λZ Z=>by show gt (listAt i) σ=_;unfold gt;rw[h.1]⟩ h.2)
  |_=>exact aE.li (P:=P) (Γ:=Γ) (m:=gt (listAt i)) σ _ Q h
theorem aE.j7 {v:V}:aE P Γ (ug v) λZ=>j7 v:=by
 induction v using V.casesOn with
 |cm n =>
  exact λσ O Q h=>(eJ _ _ O ⟨0,λZ Z=>by
   show(match decide (0<=n/\n<=16777216) with|true=>Zq.rt (It.cm 0 n)|false=>Zq.no:Mo It) σ=_;rw[decide_eq_true h.1];rfl⟩ h.2)
 |ref i=>exact aE.ls.bd λZ=>.rt
 |_=>unfold ug;exact .li
theorem aE.next:aE P Γ (DF it) λZ=>gt (fB it):=by
 obtain h:aE P Γ (LB it) λZ=>gt (fB it):=λσ O Q h=>by
  induction O using aQ with
  |nil=>exact False.elim h
  |cons o O' =>
   induction o using Or.casesOn with
   |n x=>obtain h:_/\_:=h;exact(eJ _ _ O' ⟨0,λZ Z=>by show gt (fB it) σ=_;unfold gt;rw[h.1]⟩ h.2)
   |_=>exact False.elim h
 induction it<;>first|exact .li|exact h
variable {ws:Jb->Wm An}(S:∀j,aE P Γ (ws j) λsf=>sf j)
include S
theorem aE.oE (U:Fm)(x:Expr):aE P Γ (wE ws U x) λsf=>sE sf U x:=(S _).bd λa=>by induction a<;>first|exact .rt|exact .no
theorem aE.lQ (U:Fm)(x:List Expr):aE P Γ (mM ws U x) λsf=>eZ sf U x:=(S _).bd λa=>by induction a<;>first|exact .rt|exact .no
theorem aE.oT (U:Fm)(x:Expr):aE P Γ (wT ws U x) λsf=>sT sf U x:=(S _).bd λa=>by induction a<;>first|exact .rt|exact .no
theorem aE.oV (j:Jb):aE P Γ (wV ws j) λsf=>sV sf j:=(S _).bd λa=>by induction a<;>first|exact .rt|exact .no
theorem aE.oB (j:Jb):aE P Γ (wB ws j) λsf=>sB sf j:=(S _).bd λa=>by induction a<;>first|exact .rt|exact .no
theorem aE.oF (j:Jb):aE P Γ (wF ws j) λsf=>sF sf j:=(S _).bd λa=>by induction a<;>first|exact .rt|exact .no
theorem aE.lJ (U:Fm)(x:Option Expr):aE P Γ (DZ ws U x) λsf=>lJ sf U x:=by
 induction x with
 |none=>exact .rt
 |some x=>exact(aE.oE S U x).bd λZ=>.rt
theorem aE.fH (U:Fm)(x:Expr):aE P Γ (KA P Γ ws U x) λsf=>fH P Γ sf U x:=by
 induction x using cR with
 |Constant c k p=>exact .li
 |Name x p=>exact .nm
 |BoolOp op xs p=>exact aE.oV S _
 |BinOp l op r p=>exact(aE.oE S U l).bd λa=>(aE.oE S U r).bd λb=>.bin
 |UnaryOp op x p =>
  induction op with
  |Not=>exact(aE.oE S U x).bd λa=>aE.li.bd λb=>.rt
  |USub=>exact(aE.oE S U x).bd λa=>by induction a using Zq.V.casesOn<;>first|exact .rt|exact .no
  |_=>exact .no
 |IfExp t b o p =>
  exact(aE.oT S U t).bd λc=>aE.br (G:=λc sf=>(match c with|true=>sE sf U b|false=>sE sf U o)) λc=>by
   induction c
   ·exact aE.oE S U o
   ·exact aE.oE S U b
 |Compare l bW xs p=>exact(aE.oE S U l).bd λa=>aE.oV S _
 |Call f av kw p =>
  induction kw using aQ with
  |cons _ _=>induction f using cR<;>exact .no
  |nil =>
   induction f using cR with
   |Attribute o x ap =>
    show aE P Γ (match nY o ap p av with
     |false=>bP
     |true=>aU (wE ws U o) λov=>aU (DH P ov x) λfv=>aU (mM ws U av) λvs=>aU (ot (callable P Γ fv.1)) λZ=>wV ws (.ca U.d fv.1 (fv.2++vs))) λsf=>(match nY o ap p av with
     |false=>Zq.no
     |true=>Zq.bd (sE sf U o) λov=>Zq.bd (mq P ov x) λfv=>Zq.bd (eZ sf U av) λvs=>Zq.bd (gt (callable P Γ fv.1)) λZ=>sV sf (.ca U.d fv.1 (fv.2++vs)))
    induction nY o ap p av with
    |false=>exact .no
    |true=>exact(aE.oE S U o).bd λov=>aE.fj.bd λfv=>(aE.lQ S U av).bd λvs=>aE.li.bd λZ=>aE.oV S _
   |Name f q =>
    show aE P Γ (match noStar av with
     |false=>bP
     |true=>aU (wE ws U (.Name f q)) λfv=>aU (mM ws U av) λvs=>aU (ot (callable P Γ fv)) λZ=>wV ws (.ca U.d fv vs)) λsf=>(match noStar av with
     |false=>Zq.no
     |true=>Zq.bd (sE sf U (.Name f q)) λfv=>Zq.bd (eZ sf U av) λvs=>Zq.bd (gt (callable P Γ fv)) λZ=>sV sf (.ca U.d fv vs))
    induction noStar av with
    |false=>exact .no
    |true=>exact(aE.oE S U _).bd λfv=>(aE.lQ S U av).bd λvs=>aE.li.bd λZ=>aE.oV S _
   |_=>exact .no
 |Attribute o x p =>
  show aE P Γ (match mR o with
   |false=>bP
   |true=>aU (wE ws U o) λov=>dk (sg P ov x)) λsf=>(match mR o with
   |false=>Zq.no
   |true=>Zq.bd (sE sf U o) λov=>sg P ov x)
  induction mR o with
  |false=>exact .no
  |true=>exact(aE.oE S U o).bd λov=>.li
 |Subscript o i p =>
  induction i using cR with
  |Slice lo hi st q =>
   induction st with
   |none=>exact(aE.oE S U o).bd λov=>(aE.lJ S U lo).bd λa=>(aE.lJ S U hi).bd λb=>.ask
   |some z=>exact .no
  |_=>exact(aE.oE S U o).bd λov=>(aE.oE S U _).bd λiv=>.item
 |Tuple xs k p =>
  refine(aE.lQ S U xs).bd (g:=λl=>(match fits l.length with|true=>bV (V.tup l)|false=>bP)) (G:=λl sf=>(match fits l.length with|true=>Zq.rt (V.tup l)|false=>Zq.no)) λl=>?_;induction fits l.length with
  |false=>exact .no
  |true=>exact .rt
 |List xs p =>
  refine(aE.lQ S U xs).bd (g:=λl=>(match fits l.length with|true=>aU (dk (al (.list l))) λk=>bV (V.ref k)|false=>bP)) (G:=λl sf=>(match fits l.length with|true=>Zq.bd (al (.list l)) λk=>Zq.rt (V.ref k)|false=>Zq.no)) λl=>?_;induction fits l.length with
  |false=>exact .no
  |true=>exact aE.li.bd λk=>.rt
 |Dict ks vs p =>
  induction ks using aQ with
  |nil =>
   induction vs using aQ with
   |nil=>exact aE.li.bd λk=>.rt
   |cons _ _=>exact .no
  |cons _ _=>exact .no
 |ListComp elt gens sc p =>
  induction gens using aQ with
  |nil=>exact .no
  |cons g r =>
   obtain⟨t,it,ifs,n⟩:=g;induction n with
   |negSucc _=>induction r using aQ<;>exact .no
   |ofNat n =>
    induction r using aQ with
    |cons _ _=>induction n using eO<;>exact .no
    |nil =>
     induction n using eO with
     |succ _=>exact .no
     |zero =>
      show aE P Γ (match nZ U sc it with
       |true=>aU (wE ws U it) λv=>aU (ug v) λit=>aU (dk (al (.list []))) λk=>λσ O Q =>
        wV ws (.cp {sc:=sc,loc:=[],cz:=U.cz,d:=U.d,ro:=[]} elt t ifs it k) σ O λr aj O'=>match r with
         |.ok v=>Q (.ok v) aj O'
         |.exc=>False
       |false=>bP) λsf=>(match nZ U sc it with
       |true=>Zq.bd (sE sf U it) λv=>Zq.bd (Zq.j7 v) λit=>Zq.bd (al (.list [])) λk =>
        nx (sV sf (.cp {sc:=sc,loc:=[],cz:=U.cz,d:=U.d,ro:=[]} elt t ifs it k))
       |false=>Zq.no)
      induction nZ U sc it with
      |false=>exact .no
      |true =>
       refine(aE.oE S U it).bd λv=>aE.j7.bd λi=>aE.li.bd λk=>λσ O Q q=>?_;refine jI (aE.oV S _ σ O _ q) ?_;rintro r aj O' ⟨n,e⟩ q;induction r with
       |exc=>exact q.elim
       |ok v=>exact(eJ (.ok v) aj O' ⟨n,λm hm=>by unfold nx;rw[show sV (run P Γ m) _ σ=_ from e m hm]⟩ q)
 |_=>exact .no
theorem aE.stepT (U:Fm)(x:Expr):aE P Γ (K0 ws U x) λsf=>stepT sf U x:=by
 induction x using cR with
 |UnaryOp op x p =>
  induction op with
  |Not=>exact(aE.oT S U x).bd λZ=>.rt
  |_=>exact(aE.oE S U _).bd λZ=>.li
 |BoolOp op xs p=>exact aE.oB S _
 |IfExp t b o p =>
  exact(aE.oT S U t).bd λc=>aE.br (G:=λc sf=>(match c with|true=>sT sf U b|false=>sT sf U o)) λc=>by
   induction c
   ·exact aE.oT S U o
   ·exact aE.oT S U b
 |Compare l bW xs p=>exact(aE.oE S U l).bd λa=>(aE.oV S _).bd λv=>.li
 |_=>exact(aE.oE S U _).bd λZ=>.li
theorem aE.fg (U:Fm)(v:V)(x:Expr):aE P Γ (tX P ws U v x) λsf=>fg P sf U v x:=by
 induction x using cR with
 |Name x p=>exact .st
 |Attribute o x p=>exact(aE.oE S U o).bd λov=>aE.li.bd λZ=>.rt
 |Subscript o i p =>
  refine(aE.oE S U o).bd λov=>(aE.oE S U i).bd λiv=>?_;have h:=(aE.ask (P:=P) (Γ:=Γ) (m:=Zq.bd (mZ ov iv v) λZ=>Zq.rt V.none)).bd (g:=λZ=>bV U) (G:=λZ Z=>Zq.rt U) λZ=>.rt;obtain e: ∀(f:Mo Unit),(Zq.bd (Zq.bd f λZ=>Zq.rt V.none) λZ=>Zq.rt U)=Zq.bd f λZ=>Zq.rt U:=λf=>by
   funext σ
   unfold Zq.bd Zq.rt;induction f σ with
   |none=>rfl
   |some p=>obtain⟨r,aj⟩:=p;induction r<;>rfl
  rw[show(λ(sf:Jb->Mo An)=>Zq.bd (Zq.bd (mZ ov iv v) λZ=>Zq.rt V.none) λZ=>Zq.rt U)=λsf=>Zq.bd (mZ ov iv v) λZ=>Zq.rt U from funext λZ=>e _]at h;exact h
 |Tuple xs k p =>
  refine aE.li.bd λns=>?_;induction v using Zq.V.casesOn with
  |tup l =>
   show aE P Γ (match fb ns l with
    |true=>dk (fC U ns l)
    |false=>bP) λsf=>(match fb ns l with
    |true=>fC U ns l
    |false=>Zq.no)
   induction fb ns l with
   |false=>exact .no
   |true=>exact .li
  |ref i =>
   refine aE.ls.bd (g:=λl=>(match fb ns l with
    |true=>dk (fC U ns l)
    |false=>bP)) (G:=λl sf=>(match fb ns l with
    |true=>fC U ns l
    |false=>Zq.no)) λl=>?_
   induction fb ns l with
   |false=>exact .no
   |true=>exact .li
  |_=>exact .no
 |_=>exact .no
theorem aE.CH (U:Fm)(b:List bO)(hs:List ExceptHandler)(p:aZ):aE P Γ (Dn P ws U (.Try b hs [] [] p)) λsf=>eV P sf U (.Try b hs [] [] p):=by
 intro σ O Q q;refine jI (aE.oF S _ σ O _ q) ?_;rintro r aj O' ⟨n,e⟩ q;induction r with
 |ok a =>
  refine(eJ (.ok a) aj O' ⟨n,λk hk=>?_⟩ q);show eV P (run P Γ k) U (.Try b hs [] [] p) σ=_;rw[Dm];rw[show sF (run P Γ k) _ σ=_ from e k hk]
 |exc =>
  refine jI (aE.li (P:=P) (Γ:=Γ) aj O' Q q) ?_;rintro r2 aY O2 ⟨n2,e2⟩ q;refine(eJ r2 aY O2 ⟨max n n2,λk hk=>?_⟩ q);show eV P (run P Γ k) U (.Try b hs [] [] p) σ=_;rw[Dm];rw[show sF (run P Γ k) _ σ=_ from e k (bC (Nat.le_max_left ..) hk)];exact e2 k (bC (Nat.le_max_right ..) hk)
theorem aE.eV (U:Fm)(x:bO):aE P Γ (Dn P ws U x) λsf=>eV P sf U x:=by
 induction x using vg with
 |Expr x p =>
  show aE P Γ (match iN x with
   |true=>bP
   |false=>aU (wE ws U x) λZ=>bV (Fl.next,U)) λsf=>(match iN x with
   |true=>Zq.no
   |false=>Zq.bd (sE sf U x) λZ=>Zq.rt (Fl.next,U))
  induction iN x with
  |true=>exact .no
  |false=>exact(aE.oE S U x).bd λZ=>.rt
 |Pass p=>exact .rt
 |Break p=>exact .rt
 |Return v p =>
  induction v with
  |none=>exact .no
  |some x=>exact(aE.oE S U x).bd λZ=>.rt
 |Assign ts x p =>
  induction ts using aQ with
  |nil=>exact .no
  |cons t r =>
   induction r using aQ with
   |cons _ _=>exact .no
   |nil =>
    show aE P Γ (match iN x||oX t x with
     |true=>bP
     |false=>aU (wE ws U x) λv=>aU (tX P ws U v t) λU=>bV (Fl.next,U)) λsf=>(match iN x||oX t x with
     |true=>Zq.no
     |false=>Zq.bd (sE sf U x) λv=>Zq.bd (Zq.fg P sf U v t) λU=>Zq.rt (Fl.next,U))
    induction iN x||oX t x with
    |true=>exact .no
    |false=>exact(aE.oE S U x).bd λv=>(aE.fg S U v t).bd λZ=>.rt
 |If t b o p =>
  exact(aE.oT S U t).bd λc=>aE.br (G:=λc sf=>(match c with|true=>sF sf (.ss U b)|false=>sF sf (.ss U o))) λc=>by
   induction c
   ·exact aE.oF S _
   ·exact aE.oF S _
 |While t b o p =>
  induction o using aQ with
  |nil=>exact aE.oF S _
  |cons _ _=>exact .no
 |For t i b o p =>
  induction o using aQ with
  |cons _ _=>exact .no
  |nil =>
   show aE P Γ (match gv i with
    |true=>bP
    |false=>aU (wE ws U i) λv=>aU (ug v) λit=>wF ws (.fo U t it b)) λsf=>(match gv i with
    |true=>Zq.no
    |false=>Zq.bd (sE sf U i) λv=>Zq.bd (Zq.j7 v) λit=>sF sf (.fo U t it b))
   induction gv i with
   |true=>exact .no
   |false=>exact(aE.oE S U i).bd λv=>aE.j7.bd λZ=>aE.oF S _
 |Raise e c p =>
  induction e with
  |none=>induction c<;>exact .no
  |some e =>
   induction e using cR with
   |Call f av kw q =>
    induction f using cR with
    |Name f r =>
     induction kw using aQ with
     |cons _ _=>induction c<;>exact .no
     |nil =>
      induction c with
      |some _=>exact .no
      |none =>
       show aE P Γ (match noStar av with
        |false=>bP
        |true=>aU (wE ws U (.Name f r)) λcv=>(match jV P cv with
         |false=>bP
         |true=>aU (mM ws U av) λvs=>dk (ml vs))) λsf=>(match noStar av with
        |false=>Zq.no
        |true=>Zq.bd (sE sf U (.Name f r)) λcv=>(match jV P cv with
         |false=>Zq.no
         |true=>Zq.bd (eZ sf U av) λvs=>ml vs))
       induction noStar av with
       |false=>exact .no
       |true =>
        refine(aE.oE S U _).bd (g:=λcv=>(match jV P cv with
         |false=>bP
         |true=>aU (mM ws U av) λvs=>dk (ml vs))) (G:=λcv sf=>(match jV P cv with
         |false=>Zq.no
         |true=>Zq.bd (eZ sf U av) λvs=>ml vs)) λcv=>?_
        induction jV P cv with
        |false=>exact .no
        |true=>exact(aE.lQ S U av).bd λZ=>.li
    |_=>induction kw using aQ<;>induction c<;>exact .no
   |_=>induction c<;>exact .no
 |Try b hs o f p =>
  induction o using aQ with
  |cons _ _=>induction f using aQ<;>exact .no
  |nil =>
   induction f using aQ with
   |cons _ _=>exact .no
   |nil=>exact aE.CH S U b hs p
 |_=>exact .no
theorem aE.body (fi:FI)(d':Nat)(av:List V):aE P Γ (Lk ws fi d' av) λsf=>Zq.bd (aX (jr fi.ps av fi.df)) λb =>
 Zq.bd (mU b (dS fi.scope)) λcs =>
 Zq.bd (sF sf (.ss {sc:=fi.scope,loc:=b.filter (λp=>!mi (dS fi.scope) p.1),cz:=cs,d:=d',ro:=fi.ro} fi.body)) λr=>(match r.1 with
  |.next=>Zq.rt V.none
  |.ret v=>Zq.rt v
  |.brk=>Zq.no) :=
 aE.li.bd λb=>aE.li.bd λcs=>(aE.oF S _).bd λr=>by
  obtain⟨fl,U⟩:=r;induction fl<;>first|exact .rt|exact .no
omit S in
theorem SM (h:pT x=pT y):x=y:=by
 induction x with
 |ok v =>
  induction y with
  |ok u=>exact congrArg Rs.ok (An.v.inj (Rs.ok.inj h))
  |exc=>exact nC Zq.Rs.ctorIdx h rfl
 |exc =>
  induction y with
  |ok u=>exact nC Zq.Rs.ctorIdx h rfl
  |exc=>rfl
omit S in
theorem I6 (h:bp P Γ (.ca d (.fn a) av) σ (pT x) aj):∃n,∀k,n<=k->Zq.fS P Γ (run P Γ k) d (.fn a) av σ=some (x,aj):=by
 refine oE h ?_;rintro n e;refine⟨n,λk hk=>?_⟩;obtain h:Zq.bd (Zq.fS P Γ (run P Γ k) d (.fn a) av) (λv=>Zq.rt (An.v v)) σ=some (pT x,aj):=e (k+1) (bC hk (dK k 1));clear e;unfold Zq.bd Zq.rt at h;induction hs:Zq.fS P Γ (run P Γ k) d (.fn a) av σ with
 |none=>rw[hs]at h;exact nS h
 |some p =>
  obtain⟨y,τ⟩:=p;rw[hs]at h;obtain h:some (pT y,τ)=some (pT x,aj):=by clear hs;induction y<;>exact h
  obtain h:=Jz (jR h);rw[SM h.1,h.2]
theorem aE.call (d:Nat)(a:ax)(av:List V):aE P Γ (K9 P Γ ws d a av) λsf=>fS P Γ sf d (.fn a) av:=by
 intro σ O Q q;induction O using aQ with
 |nil=>exact False.elim q
 |cons o O' =>
  induction o using Or.casesOn with
  |o x =>
   have q:_/\_:=q;refine Zq.oE (I6 (x:=.ok x) q.1) λn e=>?_;exact(eJ _ _ O' ⟨n,e⟩ q.2)
  |a x aj =>
   have q:_/\_:=q;refine Zq.oE (I6 q.1) λn e=>?_;exact(eJ _ _ O' ⟨n,e⟩ q.2)
  |go =>
   have q:EY P Γ ws d a av σ O' Q:=q;unfold EY at q;induction h1:Γ a with
   |some g=>rw[h1]at q;exact False.elim q
   |none =>
    rw[h1]at q;dsimp only at q;induction h2:P.fn a with
    |none=>rw[h2]at q;exact False.elim q
    |some fi =>
     rw[h2]at q;induction d using eO with
     |zero=>exact False.elim q
     |succ d' =>
      refine jI (aE.body S fi d' av σ O' Q q) ?_;clear q;rintro r aj O2 ⟨n,e⟩ q;refine(eJ r aj O2 ⟨n,λk hk=>?_⟩ q);rw[<- e k hk];show(match Γ a with|some g=>g (d'+1) av|none=>_) σ=_;rw[h1];dsimp only;rw[h2]<;>rfl
  |_=>exact False.elim q
theorem aE.fS (d:Nat)(f:V)(av:List V):aE P Γ (JU P Γ ws d f av) λsf=>fS P Γ sf d f av:=by
 induction f using Zq.V.casesOn with
 |fn a=>exact aE.call S d a av
 |fj a i =>
  induction d using eO with
  |zero=>exact .no
  |succ d'=>exact aE.oV S _
 |cls C =>
  show aE P Γ (match P.gf C,d with
   |some a,d'+1=>aU (dk (al (.dict []))) λdx=>aU (dk (al (.inst C dx))) λx=>aU (wV ws (.ca d' (.fn a) (.ref x::av))) λr=>(match r with
    |.none=>bV (V.ref x)
    |_=>bP)
   |_,_=>bP) λsf=>(match P.gf C,d with
   |some a,d'+1=>Zq.bd (al (.dict [])) λdx=>Zq.bd (al (.inst C dx)) λx=>Zq.bd (sV sf (.ca d' (.fn a) (.ref x::av))) λr=>(match r with
    |.none=>Zq.rt (V.ref x)
    |_=>Zq.no)
   |_,_=>Zq.no)
  induction P.gf C with
  |none=>exact .no
  |some a =>
   induction d using eO with
   |zero=>exact .no
   |succ d'=>exact aE.li.bd λdx=>aE.li.bd λx=>(aE.oV S _).bd λr=>by induction r using Zq.V.casesOn<;>first|exact .rt|exact .no
 |bi b=>exact .prim
 |_=>exact .no
theorem aE.step (j:Jb):aE P Γ (D8 P Γ ws j) λsf=>step P Γ sf j:=by
 induction j with
 |e U x=>exact(aE.fH S U x).bd λZ=>.rt
 |es U xs =>
  induction xs using aQ with
  |nil=>exact .rt
  |cons x r =>
   show aE P Γ (match jX x with
    |true=>bP
    |false=>aU (wE ws U x) λv=>aU (mM ws U r) λl=>bV (An.vs (v::l))) λsf=>(match jX x with
    |true=>Zq.no
    |false=>Zq.bd (sE sf U x) λv=>Zq.bd (eZ sf U r) λl=>Zq.rt (An.vs (v::l)))
   induction jX x with
   |true=>exact .no
   |false=>exact(aE.oE S U x).bd λv=>(aE.lQ S U r).bd λl=>.rt
 |t U x=>exact(aE.stepT S U x).bd λZ=>.rt
 |ts U op xs =>
  induction xs using aQ with
  |nil=>exact .rt
  |cons x r =>
   refine(aE.oT S U x).bd λb=>aE.br (g:=λb=>(match op,b with
    |.And,false=>bV (An.b false)
    |.Or,true=>bV (An.b true)
    |_,_=>ws (.ts U op r))) (G:=λb sf=>(match op,b with
    |.And,false=>Zq.rt (An.b false)
    |.Or,true=>Zq.rt (An.b true)
    |_,_=>sf (.ts U op r))) λb=>?_
   induction op<;>induction b<;>first|exact .rt|exact S _
 |bo U op xs =>
  match xs with
  |[]=>exact .no
  |[x]=>exact(aE.oE S U x).bd λZ=>.rt
  |x::y::r =>
   refine(aE.oE S U x).bd λv=>aE.li.bd λb=>aE.br (g:=λb=>(match op,b with
    |.And,false=>bV (An.v v)
    |.Or,true=>bV (An.v v)
    |_,_=>ws (.bo U op (y::r)))) (G:=λb sf=>(match op,b with
    |.And,false=>Zq.rt (An.v v)
    |.Or,true=>Zq.rt (An.v v)
    |_,_=>sf (.bo U op (y::r)))) λb=>?_
   induction op<;>induction b<;>first|exact .rt|exact S _
 |ch U v bW xs =>
  match bW,xs with
  |[],_=>exact .no
  |[op],[]=>exact .no
  |_::_::_,[]=>exact .no
  |[op],[x] =>
   show aE P Γ (match gv x with
    |true=>bP
    |false=>aU (wE ws U x) λr=>aU (zL op v r) λb=>bV (An.v (.bool b))) λsf=>(match gv x with
    |true=>Zq.no
    |false=>Zq.bd (sE sf U x) λr=>Zq.bd (fZ op v r) λb=>Zq.rt (An.v (.bool b)))
   induction gv x with
   |true=>exact .no
   |false=>exact(aE.oE S U x).bd λr=>aE.cmp.bd λb=>.rt
  |[op],x::y::r=>exact .no
  |op::uN::bW,x::r =>
   refine(aE.oE S U x).bd λz=>aE.cmp.bd λb=>aE.br (g:=λb=>(match b with
    |true=>ws (.ch U z (uN::bW) r)
    |false=>bV (An.v (.bool false)))) (G:=λb sf=>(match b with
    |true=>sf (.ch U z (uN::bW) r)
    |false=>Zq.rt (An.v (.bool false)))) λb=>?_
   induction b<;>first|exact .rt|exact S _
 |s U x=>exact(aE.eV S U x).bd λZ=>.rt
 |ss U xs =>
  induction xs using aQ with
  |nil=>exact .rt
  |cons x r =>
   refine(aE.oF S _).bd λq=>?_;obtain⟨fl,cg⟩:=q;induction fl<;>first|exact .rt|exact S _
 |wh U t b =>
  refine(aE.oT S U t).bd λc=>aE.br (g:=λc=>(match c with
   |false=>bV (An.f .next U)
   |true=>aU (wF ws (.ss U b)) λq=>(match q.1 with
    |.next=>ws (.wh q.2 t b)
    |.brk=>bV (An.f .next q.2)
    |.ret v=>bV (An.f (.ret v) q.2)))) (G:=λc sf=>(match c with
   |false=>Zq.rt (An.f .next U)
   |true=>Zq.bd (sF sf (.ss U b)) λq=>(match q.1 with
    |.next=>sf (.wh q.2 t b)
    |.brk=>Zq.rt (An.f .next q.2)
    |.ret v=>Zq.rt (An.f (.ret v) q.2)))) λc=>?_
  induction c with
  |false=>exact .rt
  |true =>
   refine(aE.oF S _).bd λq=>?_;obtain⟨fl,cg⟩:=q;induction fl<;>first|exact .rt|exact S _
 |fo U t it b =>
  refine aE.next.bd λo=>?_;induction o with
  |none=>exact .rt
  |some p =>
   obtain⟨v,dQ⟩:=p;refine(aE.fg S U v t).bd λgF=>(aE.oF S _).bd λq=>?_;obtain⟨fl,cg⟩:=q;induction fl<;>first|exact .rt|exact S _
 |cp U elt t ifs it aA =>
  refine aE.next.bd λo=>?_;induction o with
  |none=>exact .rt
  |some p =>
   obtain⟨v,dQ⟩:=p;refine(aE.fg S U v t).bd λgF=>(aE.oB S _).bd λc=>aE.br (g:=λc=>(match c with
    |true=>aU (wE ws gF elt) λr=>aU (iR (cw .append [.ref aA,r])) λZ=>ws (.cp gF elt t ifs dQ aA)
    |false=>ws (.cp gF elt t ifs dQ aA))) (G:=λc sf=>(match c with
    |true=>Zq.bd (sE sf gF elt) λr=>Zq.bd (cw .append [.ref aA,r]) λZ=>sf (.cp gF elt t ifs dQ aA)
    |false=>sf (.cp gF elt t ifs dQ aA))) λc=>?_
   induction c with
   |false=>exact S _
   |true=>exact(aE.oE S gF elt).bd λr=>aE.ask.bd λZ=>S _
 |as U t v=>exact(aE.fg S U v t).bd λZ=>.rt
 |ca d f av=>exact(aE.fS S d f av).bd λZ=>.rt
end
theorem aE.up (h:aE P Γ m λsf=>Zq.step P Γ sf j):aE P Γ m λsf=>sf j:=λσ O Q q=>by
 refine jI (h σ O Q q) ?_;rintro r aj O' ⟨n,e⟩ q;refine(eJ r aj O' ⟨n+1,λk hk=>?_⟩ q);obtain⟨k,rfl⟩:∃k',k=k'+1:=⟨k-1,by exact VS hk⟩;exact e k (by exact vi hk)
theorem JN (P:PE)(Γ:ax->Option (Nat->List V->Mo V)):∀n j,aE P Γ (ux P Γ n j) λsf=>sf j
 | 0,j=>.no
 |n+1,j=>by
  obtain h:=(aE.step (JN P Γ n) j).up;dsimp only[ux];induction Kw j with
  |false=>exact h
  |true =>
   intro σ O Q q;induction O using aQ with
   |nil=>exact False.elim q
   |cons o O' =>
    induction o using Or.casesOn with
    |go=>exact h _ _ _ q
    |j r aj=>obtain q:_/\_:=q;exact(eJ r aj O' q.1 q.2)
    |_=>exact False.elim q
theorem path (P:PE)(Γ:ax->Option (Nat->List V->Mo V)){O:List Or}(h:ux P Γ n j σ O λx τ Z=>x=r/\τ=aj):bp P Γ j σ r aj:=by
 refine dG (JN P Γ n j σ O _ h) ?_;clear h;rintro _ _ _ e rfl rfl;exact e
structure Co where
 i8:Nat
 hd:Bool
 sz:Nat
noncomputable def ju:V:=.tup [.str (sl "doctype"),.str (sl "a"),.none,.none,.str (sl "<!--]>-->")]
noncomputable def Co.jh (c:Co):List V:=match c.hd with
 |true=>[ju]
 |false=>[]
noncomputable def Co.names (c:Co):List V:=match c.i8 with
 | 2=>[.str (sl "a")]
 |_=>[]
noncomputable def gz:O:=.dict [(sl "name",.str (sl "e")),(sl "value",.str (sl "<b>z</b>w")),(sl "system",.none),(sl "notation",.none)]
noncomputable def cN (ps:List V)(c:Co)(T:ak)(pl:Int)(h:ak):List O:=[
 .list ps,
 .list c.jh,
 .dict [(sl "most_depth",.int 20),(sl "most_size",.int 100000)],
 .inst 886 2,
 .dict [(sl "limits",.ref 3),(sl "outer",.ref 6),(sl "general",.ref 7),(sl "parameters",.ref 8)],
 .inst 1021 4,
 .dict [],
 .dict [(sl "e",.ref 10)],
 .dict [],
 gz,
 .inst 921 9,
 .cell (some (.ref 5)),
 .cell (some (.ref 1)),
 .told 12 11,
 .dict [(sl "content",.ref 20),(sl "on_doctype",.ref 13),(sl "pieces",.ref 23),(sl "stage",.int c.i8),(sl "has_doctype",.bool c.hd)],
 .inst 864 14,
 .dict [(sl "limits",.ref 3),(sl "size",.int c.sz),(sl "open",.ref 18)],
 .inst 370 16,
 .list [],
 .dict [(sl "entities",.ref 5),(sl "growth",.ref 17),(sl "names",.ref 21)],
 .inst 793 19,
 .list c.names,
 .dict [(sl "text",.str T),(sl "place",.int pl),(sl "held",.str h)],
 .inst 592 22]
noncomputable def aV (e:Nat)(ps:List V)(c:Co)(T:ak)(pl:Int)(h:ak):List O:=[
 .list ps,
 .list c.jh,
 .dict [(sl "most_depth",.int 20),(sl "most_size",.int 100000)],
 .inst 886 2,
 .dict [(sl "limits",.ref 3),(sl "outer",.ref 6),(sl "general",.ref 7),(sl "parameters",.ref 8)],
 .inst 1021 4,
 .dict [],
 .dict (match c.hd with|true=>[(sl "e",.ref e)]|false=>[]),
 .dict [],
 .cell (some (.ref 5)),
 .cell (some (.ref 1)),
 .told 10 9,
 .dict [(sl "content",.ref 18),(sl "on_doctype",.ref 11),(sl "pieces",.ref 21),(sl "stage",.int c.i8),(sl "has_doctype",.bool c.hd)],
 .inst 864 12,
 .dict [(sl "limits",.ref 3),(sl "size",.int c.sz),(sl "open",.ref 16)],
 .inst 370 14,
 .list [],
 .dict [(sl "entities",.ref 5),(sl "growth",.ref 15),(sl "names",.ref 19)],
 .inst 793 17,
 .list c.names,
 .dict [(sl "text",.str T),(sl "place",.int pl),(sl "held",.str h)],
 .inst 592 20]
mutual
theorem C2 {g:Nat->Nat}{al:Nat->Bool}(hg:∀k,al k=true->g k=k):∀{v:V},k8 al v=true->j8 g v=v
 |.none,_=>rfl
 |.bool _,_=>rfl
 |.int _,_=>rfl
 |.str _,_=>rfl
 |.ref i,o=>congrArg V.ref (hg i o)
 |.fn _,_=>rfl
 |.cls _,_=>rfl
 |.bi _,_=>rfl
 |.tup l,o=>congrArg V.tup (yM hg o)
 |.fj a i,o=>congrArg (V.fj a) (hg i o)
 |.cm _,_=>rfl
 |.gG _,_=>rfl
theorem yM {g:Nat->Nat}{al:Nat->Bool}(hg:∀k,al k=true->g k=k):∀{l:List V},dq al l=true->eU g l=l
 |[],_=>rfl
 |v::l,o=>by
  dsimp only[dq]at o;rw[cc]at o;show j8 g v::eU g l=_;rw[C2 hg o.1,yM hg o.2]
end
theorem Kc {al:Nat->Bool}(hg:∀k,al k=true->g k=k):∀{l},nG al l=true->sJ g l=l
 |[],_=>rfl
 |p::l,o=>by
  dsimp only[nG]at o;rw[cc]at o;show(p.1,j8 g p.2)::sJ g l=_;rw[C2 hg o.1,Kc hg o.2]
theorem nU {al:Nat->Bool}(hg:∀k,al k=true->g k=k)(h:ji al o=true):iw g o=o:=by
 induction o with
 |inst C d=>exact congrArg (O.inst C) (hg d h)
 |dict l=>exact congrArg O.dict (Kc hg h)
 |list l=>exact congrArg O.list (yM hg h)
 |cell v =>
  induction v with
  |none=>rfl
  |some v=>exact congrArg (λv=>O.cell (some v)) (C2 hg h)
 |told a b =>
  unfold ji at h;rw[cc]at h;show O.told (g a) (g b)=_;rw[hg a h.1,hg b h.2]
mutual
theorem CB {al nK:Nat->Bool}(hg:∀k,al k=true->nK k=true):∀{v:V},k8 al v=true->k8 nK v=true
 |.none,_=>rfl
 |.bool _,_=>rfl
 |.int _,_=>rfl
 |.str _,_=>rfl
 |.ref i,o=>hg i o
 |.fn _,_=>rfl
 |.cls _,_=>rfl
 |.bi _,_=>rfl
 |.tup l,o=>yp hg (l:=l) o
 |.fj a i,o=>hg i o
 |.cm _,_=>rfl
 |.gG _,_=>rfl
theorem yp {al nK:Nat->Bool}(hg:∀k,al k=true->nK k=true):∀{l:List V},dq al l=true->dq nK l=true
 |[],_=>rfl
 |v::l,o=>by
  dsimp only[dq]at o ⊢;rw[cc]at o ⊢;exact⟨CB hg o.1,yp hg o.2⟩
end
theorem Jr {al nK:Nat->Bool}(hg:∀k,al k=true->nK k=true):∀{l},nG al l=true->nG nK l=true
 |[],_=>rfl
 |p::l,o=>by
  dsimp only[nG]at o ⊢;rw[cc]at o ⊢;exact⟨CB hg o.1,Jr hg o.2⟩
theorem vS {al nK:Nat->Bool}(hg:∀k,al k=true->nK k=true)(h:ji al o=true):ji nK o=true:=by
 induction o with
 |inst C d=>exact hg d h
 |dict l=>exact Jr hg (l:=l) h
 |list l=>exact yp hg (l:=l) h
 |cell v =>
  induction v with
  |none=>rfl
  |some v=>exact CB hg (v:=v) h
 |told a b =>
  unfold ji at h ⊢;rw[cc]at h ⊢;exact⟨hg a h.1,hg b h.2⟩
noncomputable def eP (al:Nat->Bool):List O->Bool
 |[]=>true
 |o::l=>ji al o&&eP al l
theorem jm {al:Nat->Bool}:∀{l} {i},eP al l=true->ay l i=some o->ji al o=true
 |[],_,_,e=>by exact nS e
 |x::l,0,h,e=>by
  (revert h;refine dP e ?_;clear e x;intro h);dsimp only[eP]at h;rw[cc]at h;exact h.1
 |x::l,i+1,h,e=>by
  dsimp only[eP]at h;rw[cc]at h;exact jm (l:=l) (i:=i) h.2 e
noncomputable def cY (n:Nat):Nat->Bool:=λj=>cE j n
theorem eF:cY n j=true↔j<n:=⟨λh=>fK (mP _) (dA h),λh=>lg h⟩
theorem qm:∀{l:List α} {i},i<l.length->∃a,ay l i=some a
 |_::_,0,_=>⟨_,rfl⟩
 |_::l,i+1,h=>qm (l:=l) (ry h)
theorem dB:∀{l r:List α} {i},i<l.length->ay (l++r) i=ay l i
 |_::_,_,0,_=>rfl
 |_::l,r,i+1,h=>dB (l:=l) (ry h)
theorem eE:∀{l r:List α} {i},ay (l++r) (l.length+i)=ay r i
 |[],r,i=>by simp
 |a::l,r,i=>by
  obtain af: (a::l).length+i=(l.length+i)+1:=by skip;exact Bn l.length 1 i
  rw[af];exact eE (l:=l)
theorem I3:∀{l:List α} {n i},i<n->ay (l.take n) i=ay l i
 |[],n,i,_=>by simp
 |_::_,0,_,h=>by lia
 |_::_,n+1,0,_=>rfl
 |_::l,n+1,i+1,h=>I3 (l:=l) (ry h)
noncomputable def cq (N m L k0:Nat)(xs:Nat->Nat)(k:Nat):Nat:=if k<N then k else if k<N+m then xs (k-N) else L+(k-k0)
noncomputable def d6 (N m k0 q:Nat)(k:Nat):Bool:=cE k (N+m)||(fG k0 k&&cE k (k0+q))
theorem Cg (N m q k0:Nat)(xs:Nat->Nat)(hd:ds<=d)(hr:run P Γ MK (.ca ds (.fn a) as) dm=some (wZ rs,τ))(hl:dm.length=N+m)(hx:∀j,j<m->N<=xs j/\xs j<σ.length)(FW:∀i j,i<m->j<m->xs i=xs j->i=j)(hN:N<=σ.length)(hk:N+m<=k0)(hc:eP (cY (N+m)) dm=true)(ha:dq (cY (N+m)) as=true)(og:∀v,rs=.ok v->k8 (d6 N m k0 q) v=true)(pH:∀i,d6 N m k0 q i=true->∃o,ay τ i=some o/\ji (d6 N m k0 q) o=true)(jg:∀j o,j<m->ay τ (N+j)=some o->ay aj (xs j)=some (iw (cq N m σ.length k0 xs) o))(hb:∀i o,ay dm i=some o->ay σ (cq N m σ.length k0 xs i)=some (iw (cq N m σ.length k0 xs) o))(h1:∀i o,i<N->ay τ i=some o->ay aj i=some (iw (cq N m σ.length k0 xs) o))(h2:∀i,N<=i->i<σ.length->(∀j,j<m->xs j≠i)->ay aj i=ay σ i)(h3:∀j o,j<q->ay τ (k0+j)=some o->ay aj (σ.length+j)=some (iw (cq N m σ.length k0 xs) o))(h4:aj.length=σ.length+q):sP P Γ a d (eU (cq N m σ.length k0 xs) as) σ (qL (cq N m σ.length k0 xs) rs) aj:=by
 have o5:∀i,d6 N m k0 q i=true↔i<N+m\/(k0<=i/\i<k0+q):=λi=>by
  unfold d6;rw[jk,cc];rw[show cE i (N+m)=cY (N+m) i from rfl,show cE i (k0+q)=cY (k0+q) i from rfl,eF,eF,Nat.ble_eq]
 have gA:∀i,i<N->cq N m σ.length k0 xs i=i:=λi h=>if_pos h;have gB:∀i,N<=i->i<N+m->cq N m σ.length k0 xs i=xs (i-N):=λi h1 h2=>by
  unfold cq;rw[if_neg (d8.mpr h1),if_pos h2]
 have gC:∀i,N+m<=i->cq N m σ.length k0 xs i=σ.length+(i-k0):=λi h1=>by
  unfold cq;rw[if_neg (d8.mpr (bC (dK N m) h1)),if_neg (d8.mpr h1)]
 refine⟨ds,MK,dm,τ,as,rs,cq N m σ.length k0 xs,d6 N m k0 q,hd,hr,λi hi=>?_,λi hi=>?_,λi j hi hj e=>?_,λi o e=>⟨?_,hb i o e⟩,rfl,?_,rfl,og,by exact ve (hZ (eG h4)),λi hi=>?_⟩
 ·rw[hl]at hi;refine⟨(o5 i).mpr (.inl hi),?_⟩;by_cases z:i<N
  ·rw[gA i z];exact bC z hN
  ·rw[gB i (eN z) hi];exact(hx _ (qZ z hi)).2
 ·refine aO (pH i hi) ?_;rintro o ho _;refine(dg (bK ho) ?_ (λh=>?_))
  ·refine aG ((o5 i).mp hi) ?_ (kA ?_)
   ·rintro z;by_cases y:i<N
    ·rw[gA i y];exact bK (h1 i o y ho)
    ·rw[gB i (eN y) z];rw[h4];exact fK (hx (i-N) (qZ y z)).2 (dK _ _)
   ·rintro z1 z2;rw[gC i (bC hk z1),h4];exact pV (G8 z1 z2) _
  ·rw[hl]at h;rw[gC i h];exact(dK (ew σ) (i-k0))
 ·obtain hi:=(o5 i).mp hi;obtain hj:= (o5 j).mp hj;by_cases a1:i<N
  ·rw[gA i a1]at e;by_cases b1:j<N
   ·rw[gA j b1]at e;exact e
   ·by_cases b2:j<N+m
    ·rw[gB j (eN b1) b2]at e;exact absurd a1 (d8.mpr (bC (hx (j-N) (qZ b1 b2)).1 (hZ e.symm)))
    ·rw[gC j (eN b2)]at e;exact absurd a1 (d8.mpr (bC hN (bC (dK _ _) (hZ e.symm))))
  ·by_cases a2:i<N+m
   ·rw[gB i (eN a1) a2]at e;have af:=hx (i-N) (qZ a1 a2);by_cases b1:j<N
    ·rw[gA j b1]at e;exact absurd b1 (d8.mpr (bC af.1 (hZ e)))
    ·by_cases b2:j<N+m
     ·rw[gB j (eN b1) b2]at e;exact Mm (eN a1) (eN b1) (FW _ _ (qZ a1 a2) (qZ b1 b2) e)
     ·rw[gC j (eN b2)]at e;exact absurd af.2 (d8.mpr (bC (dK _ _) (hZ e.symm)))
   ·rw[gC i (eN a2)]at e;by_cases b1:j<N
    ·rw[gA j b1]at e;exact absurd b1 (d8.mpr (bC hN (bC (dK _ _) (hZ e))))
    ·by_cases b2:j<N+m
     ·rw[gB j (eN b1) b2]at e;exact absurd (hx (j-N) (qZ b1 b2)).2 (d8.mpr (bC (dK _ _) (hZ e)))
     ·rw[gC j (eN b2)]at e;exact Mm (hi.resolve_left a2).1 (hj.resolve_left b2).1 (Hw e)
 ·rw[show(λj=>cE j dm.length)=cY (N+m) from by rw[hl];rfl];exact jm hc e
 ·rw[show(λj=>cE j dm.length)=cY (N+m) from by rw[hl];rfl];exact ha
 ·by_cases z:i<N
  ·left;refine aO (pH i ((o5 i).mpr (.inl (bC z (dK N m))))) ?_;rintro o ho ok;exact(Cw i o ((o5 i).mpr (.inl (bC z (dK N m)))) (gA i z) (λh=>absurd (fK z (dK N m)) (d8.mpr (hl▸h))) ho ok (h1 i o z ho))
  ·by_cases z2:i<σ.length
   ·by_cases hex:∃j,j<m/\xs j=i
    ·refine aO hex ?_;clear hex;rintro j hj rfl;left;refine aO (pH (N+j) ((o5 _).mpr (.inl (pV hj N)))) ?_;rintro o ho ok;refine(Cw (N+j) o ((o5 _).mpr (.inl (pV hj N))) (by rw[gB _ (dK _ _) (pV hj _)];congr 1;exact He _ _) (λh=>absurd (pV hj N) (d8.mpr (hl▸h))) ho ok ?_);exact jg j o hj ho
    ·right;refine(dg z2 (λj hj e=>?_) (h2 i (eN z) z2 λj hj e=>hex (aP j hj e)));rw[hl]at hj;by_cases y:j<N
     ·rw[gA j y]at e;exact absurd (e▸y) z
     ·rw[gB j (eN y) hj]at e;exact hex (aP (j-N) (qZ y hj) e)
   ·left;obtain hq:=G8 (eN z2) (h4▸hi);have Gs:=(o5 _).mpr (.inr ⟨by exact(dK k0 (i-ew σ)),by exact pV hq k0⟩);refine aO (pH _ Gs) ?_;rintro o ho ok;refine(Cw _ o Gs (by rw[gC _ (bC hk (dK k0 (i-ew σ))),He];exact zT (eN z2)) (λh=>by exact vi (vo z2)) ho ok ?_);have af:=h3 (i-σ.length) o hq ho;rw[show σ.length+(i-σ.length)=i from zT (eN z2)]at af;exact af
theorem tW (N m q k0:Nat)(xs:Nat->Nat)(hd:ds<=d)(hr:run P Γ MK (.ca ds (.fn a) as) dm=some (wZ rs,τ))(hl:dm.length=N+m)(hx:∀j,j<m->N<=xs j/\xs j<σ.length)(FW:∀i j,i<m->j<m->xs i=xs j->i=j)(hN:N<=σ.length)(hk:N+m<=k0)(hc:eP (cY (N+m)) dm=true)(ha:dq (cY (N+m)) as=true)(og:∀v,rs=.ok v->k8 (d6 N m k0 q) v=true)(pH:∀i,d6 N m k0 q i=true->∃o,ay τ i=some o/\ji (d6 N m k0 q) o=true)(DV:∀j,j<m->ay τ (N+j)=ay dm (N+j))(hb:∀i o,ay dm i=some o->ay σ (cq N m σ.length k0 xs i)=some (iw (cq N m σ.length k0 xs) o))(h1:∀i o,i<N->ay τ i=some o->ay aj i=some (iw (cq N m σ.length k0 xs) o))(h2:∀i,N<=i->i<σ.length->ay aj i=ay σ i)(h3:∀j o,j<q->ay τ (k0+j)=some o->ay aj (σ.length+j)=some (iw (cq N m σ.length k0 xs) o))(h4:aj.length=σ.length+q):sP P Γ a d (eU (cq N m σ.length k0 xs) as) σ (qL (cq N m σ.length k0 xs) rs) aj:=by
 refine Cg N m q k0 xs hd hr hl hx FW hN hk hc ha og pH (λj o hj ho=>?_) hb h1 (λi a b Z=>h2 i a b) h3 h4;rw[h2 _ (hx j hj).1 (hx j hj).2];have af:=hb (N+j) o (by rw[<- DV j hj];exact ho);rw[show cq N m σ.length k0 xs (N+j)=xs j by
  unfold cq;rw[if_neg (d8.mpr (dK _ _)),if_pos (pV hj _),He]]at af
 exact af
noncomputable def Mn {α:Type}(F:(Jb->Mo An)->Mo α):Prop:=∀sf ke:Jb->Mo An,(∀j σ x,sf j σ=some x->ke j σ=some x)->∀σ x,F sf σ=some x->F ke σ=some x
section
variable {P:PE}{Γ:ax->Option (Nat->List V->Mo V)}{α β:Type}
theorem Mn.li:Mn λZ=>m:=λZ Z Z Z Z e=>e
theorem Mn.rt:Mn λZ=>Zq.rt a:=Mn.li
theorem Mn.no:Mn λZ=>(Zq.no:Mo α):=Mn.li
theorem Mn.self (j:Jb):Mn λsf=>sf j:=λZ Z h σ x e=>h j σ x e
theorem Mn.bd {G:α->(Jb->Mo An)->Mo β}(h:Mn F)(k:∀a,Mn (G a)):Mn λsf=>Zq.bd (F sf) λa=>G a sf:=λsf ke hs σ x e=>by
 obtain e:Zq.bd (F sf) (λa=>G a sf) σ=some x:=e;show Zq.bd (F ke) (λa=>G a ke) σ=some x;unfold Zq.bd at e ⊢;induction hf:F sf σ with
 |none=>rw[hf]at e;exact nS e
 |some p =>
  rw[hf]at e;rw[show F ke σ=some p from h sf ke hs σ p hf];clear hf;obtain⟨r,τ⟩:=p;induction r with
  |exc=>exact e
  |ok a=>exact k a sf ke hs τ x e
theorem Mn.br {G:Bool->(Jb->Mo An)->Mo β}(k:∀a,Mn (G a)):Mn λsf=>G b sf:=k b
theorem Mn.oE (U:Fm)(x:Expr):Mn λsf=>sE sf U x:=(Mn.self _).bd λa=>by induction a<;>first|exact .rt|exact .no
theorem Mn.lQ (U:Fm)(x:List Expr):Mn λsf=>eZ sf U x:=(Mn.self _).bd λa=>by induction a<;>first|exact .rt|exact .no
theorem Mn.oT (U:Fm)(x:Expr):Mn λsf=>sT sf U x:=(Mn.self _).bd λa=>by induction a<;>first|exact .rt|exact .no
theorem Mn.oV (j:Jb):Mn λsf=>sV sf j:=(Mn.self _).bd λa=>by induction a<;>first|exact .rt|exact .no
theorem Mn.oB (j:Jb):Mn λsf=>sB sf j:=(Mn.self _).bd λa=>by induction a<;>first|exact .rt|exact .no
theorem Mn.oF (j:Jb):Mn λsf=>sF sf j:=(Mn.self _).bd λa=>by induction a<;>first|exact .rt|exact .no
theorem Mn.lJ (U:Fm)(x:Option Expr):Mn λsf=>lJ sf U x:=by
 induction x with
 |none=>exact .rt
 |some x=>exact(Mn.oE U x).bd λZ=>.rt
theorem Mn.fH (U:Fm)(x:Expr):Mn λsf=>fH P Γ sf U x:=by
 induction x using cR with
 |Constant c k p=>exact .li
 |Name x p=>exact .li
 |BoolOp op xs p=>exact Mn.oV _
 |BinOp l op r p=>exact(Mn.oE U l).bd λa=>(Mn.oE U r).bd λb=>.li
 |UnaryOp op x p =>
  induction op with
  |Not=>exact(Mn.oE U x).bd λa=>Mn.li.bd λb=>.rt
  |USub=>exact(Mn.oE U x).bd λa=>by induction a using Zq.V.casesOn<;>first|exact .rt|exact .no
  |_=>exact .no
 |IfExp t b o p =>
  exact(Mn.oT U t).bd λc=>Mn.br (G:=λc sf=>(match c with|true=>sE sf U b|false=>sE sf U o)) λc=>by
   induction c
   ·exact Mn.oE U o
   ·exact Mn.oE U b
 |Compare l bW xs p=>exact(Mn.oE U l).bd λa=>Mn.oV _
 |Call f av kw p =>
  induction kw using aQ with
  |cons _ _=>induction f using cR<;>exact .no
  |nil =>
   induction f using cR with
   |Attribute o x ap =>
    show Mn λsf=>(match nY o ap p av with
     |false=>Zq.no
     |true=>Zq.bd (sE sf U o) λov=>Zq.bd (mq P ov x) λfv=>Zq.bd (eZ sf U av) λvs=>Zq.bd (gt (callable P Γ fv.1)) λZ=>sV sf (.ca U.d fv.1 (fv.2++vs)))
    induction nY o ap p av with
    |false=>exact .no
    |true=>exact(Mn.oE U o).bd λov=>Mn.li.bd λfv=>(Mn.lQ U av).bd λvs=>Mn.li.bd λZ=>Mn.oV _
   |Name f q =>
    show Mn λsf=>(match noStar av with
     |false=>Zq.no
     |true=>Zq.bd (sE sf U (.Name f q)) λfv=>Zq.bd (eZ sf U av) λvs=>Zq.bd (gt (callable P Γ fv)) λZ=>sV sf (.ca U.d fv vs))
    induction noStar av with
    |false=>exact .no
    |true=>exact(Mn.oE U _).bd λfv=>(Mn.lQ U av).bd λvs=>Mn.li.bd λZ=>Mn.oV _
   |_=>exact .no
 |Attribute o x p =>
  show Mn λsf=>(match mR o with
   |false=>Zq.no
   |true=>Zq.bd (sE sf U o) λov=>sg P ov x)
  induction mR o with
  |false=>exact .no
  |true=>exact(Mn.oE U o).bd λov=>.li
 |Subscript o i p =>
  induction i using cR with
  |Slice lo hi st q =>
   induction st with
   |none=>exact(Mn.oE U o).bd λov=>(Mn.lJ U lo).bd λa=>(Mn.lJ U hi).bd λb=>.li
   |some z=>exact .no
  |_=>exact(Mn.oE U o).bd λov=>(Mn.oE U _).bd λiv=>.li
 |Tuple xs k p =>
  refine(Mn.lQ U xs).bd (G:=λl sf=>(match fits l.length with|true=>Zq.rt (V.tup l)|false=>Zq.no)) λl=>?_;induction fits l.length with
  |false=>exact .no
  |true=>exact .rt
 |List xs p =>
  refine(Mn.lQ U xs).bd (G:=λl sf=>(match fits l.length with|true=>Zq.bd (al (.list l)) λk=>Zq.rt (V.ref k)|false=>Zq.no)) λl=>?_;induction fits l.length with
  |false=>exact .no
  |true=>exact Mn.li.bd λk=>.rt
 |Dict ks vs p =>
  induction ks using aQ with
  |nil =>
   induction vs using aQ with
   |nil=>exact Mn.bd (F:=λZ=>al (.dict [])) (G:=λk Z=>Zq.rt (V.ref k)) .li λk=>.rt
   |cons _ _=>exact .no
  |cons _ _=>exact .no
 |ListComp elt gens sc p =>
  induction gens using aQ with
  |nil=>exact .no
  |cons g r =>
   obtain⟨t,it,ifs,n⟩:=g;induction n with
   |negSucc _=>induction r using aQ<;>exact .no
   |ofNat n =>
    induction r using aQ with
    |cons _ _=>induction n using eO<;>exact .no
    |nil =>
     induction n using eO with
     |succ _=>exact .no
     |zero =>
      show Mn λsf=>(match nZ U sc it with
       |true=>Zq.bd (sE sf U it) λv=>Zq.bd (Zq.j7 v) λit=>Zq.bd (al (.list [])) λk =>
        nx (sV sf (.cp {sc:=sc,loc:=[],cz:=U.cz,d:=U.d,ro:=[]} elt t ifs it k))
       |false=>Zq.no)
      induction nZ U sc it with
      |false=>exact .no
      |true =>
       refine(Mn.oE U it).bd λv=>Mn.li.bd λi=>Mn.li.bd λk=>λsf ke hs σ x e=>?_;unfold nx at e ⊢;induction hf:sV sf (.cp {sc:=sc,loc:=[],cz:=U.cz,d:=U.d,ro:=[]} elt t ifs i k) σ with
       |none=>rw[hf]at e;exact nS e
       |some p =>
        rw[hf]at e;rw[show sV ke _ σ=some p from Mn.oV _ sf ke hs σ p hf];exact e
 |_=>exact .no
theorem Mn.stepT (U:Fm)(x:Expr):Mn λsf=>stepT sf U x:=by
 induction x using cR with
 |UnaryOp op x p =>
  induction op with
  |Not=>exact(Mn.oT U x).bd λZ=>.rt
  |_=>exact(Mn.oE U _).bd λZ=>.li
 |BoolOp op xs p=>exact Mn.oB _
 |IfExp t b o p =>
  exact(Mn.oT U t).bd λc=>Mn.br (G:=λc sf=>(match c with|true=>sT sf U b|false=>sT sf U o)) λc=>by
   induction c
   ·exact Mn.oT U o
   ·exact Mn.oT U b
 |Compare l bW xs p=>exact(Mn.oE U l).bd λa=>(Mn.oV _).bd λv=>.li
 |_=>exact(Mn.oE U _).bd λZ=>.li
theorem Mn.fg (U:Fm)(v:V)(x:Expr):Mn λsf=>fg P sf U v x:=by
 induction x using cR with
 |Name x p=>exact .li
 |Attribute o x p=>exact(Mn.oE U o).bd λov=>Mn.li.bd λZ=>.rt
 |Subscript o i p =>
  refine(Mn.oE U o).bd λov=>(Mn.oE U i).bd λiv=>?_;exact Mn.li.bd λZ=>.rt
 |Tuple xs k p =>
  refine Mn.li.bd λns=>?_;induction v using Zq.V.casesOn with
  |tup l =>
   show Mn λsf=>(match fb ns l with
    |true=>fC U ns l
    |false=>Zq.no)
   induction fb ns l with
   |false=>exact .no
   |true=>exact .li
  |ref i =>
   refine Mn.li.bd (G:=λl sf=>(match fb ns l with
    |true=>fC U ns l
    |false=>Zq.no)) λl=>?_
   induction fb ns l with
   |false=>exact .no
   |true=>exact .li
  |_=>exact .no
 |_=>exact .no
theorem Mn.CH (U:Fm)(b:List bO)(hs:List ExceptHandler)(p:aZ):Mn λsf=>eV P sf U (.Try b hs [] [] p):=by
 intro sf ke h σ x e;have e:eV P sf U (.Try b hs [] [] p) σ=some x:=e;show eV P ke U (.Try b hs [] [] p) σ=some x;rw[Dm]at e ⊢;induction hf:sF sf (.ss U b) σ with
 |none=>rw[hf]at e;exact nS e
 |some q =>
  rw[hf]at e;rw[show sF ke _ σ=some q from Mn.oF _ sf ke h σ q hf];exact e
theorem Mn.eV (U:Fm)(x:bO):Mn λsf=>eV P sf U x:=by
 induction x using vg with
 |Expr x p =>
  show Mn λsf=>(match iN x with
   |true=>Zq.no
   |false=>Zq.bd (sE sf U x) λZ=>Zq.rt (Fl.next,U))
  induction iN x with
  |true=>exact .no
  |false=>exact(Mn.oE U x).bd λZ=>.rt
 |Pass p=>exact .rt
 |Break p=>exact .rt
 |Return v p =>
  induction v with
  |none=>exact .no
  |some x=>exact(Mn.oE U x).bd λZ=>.rt
 |Assign ts x p =>
  induction ts using aQ with
  |nil=>exact .no
  |cons t r =>
   induction r using aQ with
   |cons _ _=>exact .no
   |nil =>
    show Mn λsf=>(match iN x||oX t x with
     |true=>Zq.no
     |false=>Zq.bd (sE sf U x) λv=>Zq.bd (Zq.fg P sf U v t) λU=>Zq.rt (Fl.next,U))
    induction iN x||oX t x with
    |true=>exact .no
    |false=>exact(Mn.oE U x).bd λv=>(Mn.fg U v t).bd λZ=>.rt
 |If t b o p =>
  exact(Mn.oT U t).bd λc=>Mn.br (G:=λc sf=>(match c with|true=>sF sf (.ss U b)|false=>sF sf (.ss U o))) λc=>by
   induction c
   ·exact Mn.oF _
   ·exact Mn.oF _
 |While t b o p =>
  induction o using aQ with
  |nil=>exact Mn.oF _
  |cons _ _=>exact .no
 |For t i b o p =>
  induction o using aQ with
  |cons _ _=>exact .no
  |nil =>
   show Mn λsf=>(match gv i with
    |true=>Zq.no
    |false=>Zq.bd (sE sf U i) λv=>Zq.bd (Zq.j7 v) λit=>sF sf (.fo U t it b))
   induction gv i with
   |true=>exact .no
   |false=>exact(Mn.oE U i).bd λv=>Mn.li.bd λZ=>Mn.oF _
 |Raise e c p =>
  induction e with
  |none=>induction c<;>exact .no
  |some e =>
   induction e using cR with
   |Call f av kw q =>
    induction f using cR with
    |Name f r =>
     induction kw using aQ with
     |cons _ _=>induction c<;>exact .no
     |nil =>
      induction c with
      |some _=>exact .no
      |none =>
       show Mn λsf=>(match noStar av with
        |false=>Zq.no
        |true=>Zq.bd (sE sf U (.Name f r)) λcv=>(match jV P cv with
         |false=>Zq.no
         |true=>Zq.bd (eZ sf U av) λvs=>ml vs))
       induction noStar av with
       |false=>exact .no
       |true =>
        refine(Mn.oE U _).bd (G:=λcv sf=>(match jV P cv with
         |false=>Zq.no
         |true=>Zq.bd (eZ sf U av) λvs=>ml vs)) λcv=>?_
        induction jV P cv with
        |false=>exact .no
        |true=>exact(Mn.lQ U av).bd λZ=>.li
    |_=>induction kw using aQ<;>induction c<;>exact .no
   |_=>induction c<;>exact .no
 |Try b hs o f p =>
  induction o using aQ with
  |cons _ _=>induction f using aQ<;>exact .no
  |nil =>
   induction f using aQ with
   |cons _ _=>exact .no
   |nil=>exact Mn.CH U b hs p
 |_=>exact .no
theorem Mn.body (fi:FI)(d':Nat)(av:List V):Mn λsf=>Zq.bd (aX (jr fi.ps av fi.df)) λb =>
 Zq.bd (mU b (dS fi.scope)) λcs =>
 Zq.bd (sF sf (.ss {sc:=fi.scope,loc:=b.filter (λp=>!mi (dS fi.scope) p.1),cz:=cs,d:=d',ro:=fi.ro} fi.body)) λr=>(match r.1 with
  |.next=>Zq.rt V.none
  |.ret v=>Zq.rt v
  |.brk=>Zq.no) :=
 Mn.li.bd λb=>Mn.li.bd λcs=>(Mn.oF _).bd λr=>by
  obtain⟨fl,U⟩:=r;induction fl<;>first|exact .rt|exact .no
theorem Mn.call (d:Nat)(a:ax)(av:List V):Mn λsf=>fS P Γ sf d (.fn a) av:=by
 obtain e2: ∀(sf:Jb->Mo An),Zq.fS P Γ sf d (.fn a) av=(match Γ a with
  |some g=>g d av
  |none=>(match P.fn a,d with
   |some fi,d'+1=>Zq.bd (aX (jr fi.ps av fi.df)) λb =>
    Zq.bd (mU b (dS fi.scope)) λcs =>
    Zq.bd (sF sf (.ss {sc:=fi.scope,loc:=b.filter (λp=>!mi (dS fi.scope) p.1),cz:=cs,d:=d',ro:=fi.ro} fi.body)) λr=>(match r.1 with
     |.next=>Zq.rt V.none
     |.ret v=>Zq.rt v
     |.brk=>Zq.no)
   |_,_=>Zq.no)):=λZ=>rfl
 rw[funext e2];induction Γ a with
 |some g=>exact .li
 |none =>
  dsimp only;induction P.fn a with
  |none=>clear e2;induction d using eO<;>exact .no
  |some fi =>
   clear e2;induction d using eO with
   |zero=>exact .no
   |succ d'=>exact Mn.body fi d' av
theorem Mn.fS (d:Nat)(f:V)(av:List V):Mn λsf=>fS P Γ sf d f av:=by
 induction f using Zq.V.casesOn with
 |fn a=>exact Mn.call d a av
 |fj a i =>
  induction d using eO with
  |zero=>exact .no
  |succ d'=>exact Mn.oV _
 |cls C =>
  show Mn λsf=>(match P.gf C,d with
   |some a,d'+1=>Zq.bd (al (.dict [])) λdx=>Zq.bd (al (.inst C dx)) λx=>Zq.bd (sV sf (.ca d' (.fn a) (.ref x::av))) λr=>(match r with
    |.none=>Zq.rt (V.ref x)
    |_=>Zq.no)
   |_,_=>Zq.no)
  induction P.gf C with
  |none=>exact .no
  |some a =>
   induction d using eO with
   |zero=>exact .no
   |succ d'=>exact Mn.li.bd λdx=>Mn.li.bd λx=>(Mn.oV _).bd λr=>by induction r using Zq.V.casesOn<;>first|exact .rt|exact .no
 |bi b=>exact .li
 |ref i =>
  induction d using eO with
  |zero=>exact .no
  |succ d' =>
   refine Mn.bd (F:=λZ=>gt (zk i)) (G:=λ(c:Nat×Nat) sf=>Zq.bd (aX (jr P.told.ps av P.told.df)) λb =>
    Zq.bd (sF sf (.ss {sc:=P.told.scope,loc:=b,cz:=[("doctypes",c.1),("table",c.2)],d:=d',ro:=[]} P.told.body)) λr=>(match r.1 with
     |.next=>Zq.rt V.none
     |.ret v=>Zq.rt v
     |.brk=>Zq.no)) .li λc=>Mn.li.bd λb=>(Mn.oF _).bd λr=>?_
   obtain⟨fl,U⟩:=r;induction fl<;>first|exact .rt|exact .no
 |_=>exact .no
theorem Mn.step (j:Jb):Mn λsf=>step P Γ sf j:=by
 induction j with
 |e U x=>exact(Mn.fH U x).bd λZ=>.rt
 |es U xs =>
  induction xs using aQ with
  |nil=>exact .rt
  |cons x r =>
   show Mn λsf=>(match jX x with
    |true=>Zq.no
    |false=>Zq.bd (sE sf U x) λv=>Zq.bd (eZ sf U r) λl=>Zq.rt (An.vs (v::l)))
   induction jX x with
   |true=>exact .no
   |false=>exact(Mn.oE U x).bd λv=>(Mn.lQ U r).bd λl=>.rt
 |t U x=>exact(Mn.stepT U x).bd λZ=>.rt
 |ts U op xs =>
  induction xs using aQ with
  |nil=>exact .rt
  |cons x r =>
   refine(Mn.oT U x).bd λb=>Mn.br (G:=λb sf=>(match op,b with
    |.And,false=>Zq.rt (An.b false)
    |.Or,true=>Zq.rt (An.b true)
    |_,_=>sf (.ts U op r))) λb=>?_
   induction op<;>induction b<;>first|exact .rt|exact Mn.self _
 |bo U op xs =>
  match xs with
  |[]=>exact .no
  |[x]=>exact(Mn.oE U x).bd λZ=>.rt
  |x::y::r =>
   refine(Mn.oE U x).bd λv=>Mn.li.bd λb=>Mn.br (G:=λb sf=>(match op,b with
    |.And,false=>Zq.rt (An.v v)
    |.Or,true=>Zq.rt (An.v v)
    |_,_=>sf (.bo U op (y::r)))) λb=>?_
   induction op<;>induction b<;>first|exact .rt|exact Mn.self _
 |ch U v bW xs =>
  match bW,xs with
  |[],_=>exact .no
  |[op],[]=>exact .no
  |_::_::_,[]=>exact .no
  |[op],[x] =>
   show Mn λsf=>(match gv x with
    |true=>Zq.no
    |false=>Zq.bd (sE sf U x) λr=>Zq.bd (fZ op v r) λb=>Zq.rt (An.v (.bool b)))
   induction gv x with
   |true=>exact .no
   |false=>exact(Mn.oE U x).bd λr=>Mn.li.bd λb=>.rt
  |[op],x::y::r =>
   refine(Mn.oE U x).bd λz=>Mn.li.bd (G:=λb sf=>(match b with
    |true=>sf (.ch U z [] (y::r))
    |false=>Zq.rt (An.v (.bool false)))) λb=>?_
   induction b<;>first|exact .rt|exact Mn.self _
  |op::uN::bW,x::r =>
   refine(Mn.oE U x).bd λz=>Mn.li.bd λb=>Mn.br (G:=λb sf=>(match b with
    |true=>sf (.ch U z (uN::bW) r)
    |false=>Zq.rt (An.v (.bool false)))) λb=>?_
   induction b<;>first|exact .rt|exact Mn.self _
 |s U x=>exact(Mn.eV U x).bd λZ=>.rt
 |ss U xs =>
  induction xs using aQ with
  |nil=>exact .rt
  |cons x r =>
   refine(Mn.oF _).bd λq=>?_;obtain⟨fl,cg⟩:=q;induction fl<;>first|exact .rt|exact Mn.self _
 |wh U t b =>
  refine(Mn.oT U t).bd λc=>Mn.br (G:=λc sf=>(match c with
   |false=>Zq.rt (An.f .next U)
   |true=>Zq.bd (sF sf (.ss U b)) λq=>(match q.1 with
    |.next=>sf (.wh q.2 t b)
    |.brk=>Zq.rt (An.f .next q.2)
    |.ret v=>Zq.rt (An.f (.ret v) q.2)))) λc=>?_
  induction c with
  |false=>exact .rt
  |true =>
   refine(Mn.oF _).bd λq=>?_;obtain⟨fl,cg⟩:=q;induction fl<;>first|exact .rt|exact Mn.self _
 |fo U t it b =>
  refine Mn.li.bd λo=>?_;induction o with
  |none=>exact .rt
  |some p =>
   obtain⟨v,dQ⟩:=p;refine(Mn.fg U v t).bd λgF=>(Mn.oF _).bd λq=>?_;obtain⟨fl,cg⟩:=q;induction fl<;>first|exact .rt|exact Mn.self _
 |cp U elt t ifs it aA =>
  refine Mn.li.bd λo=>?_;induction o with
  |none=>exact .rt
  |some p =>
   obtain⟨v,dQ⟩:=p;refine(Mn.fg U v t).bd λgF=>(Mn.oB _).bd λc=>Mn.br (G:=λc sf=>(match c with
    |true=>Zq.bd (sE sf gF elt) λr=>Zq.bd (cw .append [.ref aA,r]) λZ=>sf (.cp gF elt t ifs dQ aA)
    |false=>sf (.cp gF elt t ifs dQ aA))) λc=>?_
   induction c with
   |false=>exact Mn.self _
   |true=>exact(Mn.oE gF elt).bd λr=>Mn.li.bd λZ=>Mn.self _
 |as U t v=>exact(Mn.fg U v t).bd λZ=>.rt
 |ca d f av=>exact(Mn.fS d f av).bd λZ=>.rt
end
theorem Jv:∀{n m} {j} {σ} {x},n<=m->run P Γ n j σ=some x->run P Γ m j σ=some x
 | 0,_,_,_,_,_,e=>by exact nS e
 |n+1,0,_,_,_,h,_=>by lia
 |n+1,m+1,j,σ,x,h,e=>Mn.step j _ _ (λj σ x e=>Jv (by exact vi h) e) σ x e
theorem bp.of (e:run P Γ n j σ=some (r,aj)):bp P Γ j σ r aj:=⟨n,λZ h=>Jv h e⟩
theorem bp.det (a:bp P Γ j σ X3 iP)(b:bp P Γ j σ Mj LD):X3=Mj/\iP=LD:=by
 refine oE a ?_;clear a;rintro n a;refine oE b ?_;clear b;rintro m b;obtain h1:= a (max n m) (by exact Nat.le_max_left n m);rw[b (max n m) (by exact Nat.le_max_right n m)]at h1;(clear b;refine Lg h1 ?_;clear h1 Mj LD);exact⟨rfl,rfl⟩
open Classical in
noncomputable def lim (P:PE)(Γ:ax->Option (Nat->List V->Mo V))(j:Jb)(σ:Sg):Option (Rs An×Sg):=if h:∃p:Rs An×Sg,bp P Γ j σ p.1 p.2 then some (Hv h) else none
theorem o6 (e:bp P Γ j σ r aj):lim P Γ j σ=some (r,aj):=by
 unfold lim;obtain h:∃p:Rs An×Sg,bp P Γ j σ p.1 p.2:=⟨(r,aj),e⟩;rw[dif_pos h];refine oA ((Pl h).det e) ?_;rintro h1 h2;exact congrArg some (Prod.ext h1 h2)
noncomputable def bJ (G:Nat->Option (Nat->List V->Mo V)):ax->Option (Nat->List V->Mo V):=λa=>match bx a 840 with
 |true=>G 0
 |false=>(match bx a 1093 with
  |true=>G 1
  |false=>cG a)
theorem oU (h:Γ a=some g)(e:g d av σ=some (r,aj)):bp P Γ (.ca d (.fn a) av) σ (pT r) aj:=by
 refine bp.of (n:=1) ?_;show bd (fS P Γ _ d (.fn a) av) (λv=>rt (An.v v)) σ=_;obtain af: fS P Γ (run P Γ 0) d (.fn a) av=g d av:=by
  show(match Γ a with
   |some g=>g d av
   |none=>_)=_
  rw[h]
 rw[af];unfold bd;rw[e];clear e;induction r<;>rfl
theorem bp.pz (e:bp P Γ (.ca d (.fn a) av) σ (pT r) aj):∃n,run P Γ n (.ca d (.fn a) av) σ=some (wZ r,aj):=by
 refine oE e ?_;clear e;rintro n e;exact⟨n,(e n (bc _)).trans (by clear e;induction r<;>rfl)⟩
noncomputable def dj:List V->Bool:=dq λZ=>false
theorem gP {al:Nat->Bool}(h:dj l=true):dq al l=true:=yp (al:=λZ=>false) (λZ h=>absurd h xS) h
theorem mW (h:dj l=true):eU g l=l:=yM (al:=λZ=>false) (λZ h=>absurd h xS) h
noncomputable def wk (as:List V)(σ:Sg):Option (Rs V×Sg):=match lim aR cG (.ca 20 (.fn 840) (.ref 15::as)) (σ.take 24) with
 |some (.ok (.v (.ref j)),τ)=>(match ay τ j with
  |some (.list aM)=>some (.ok (.ref (24+(σ.drop 24).length)),τ.take 24++σ.drop 24++[.list aM])
  |_=>none)
 |some (.exc,τ)=>some (.exc,τ.take 24++σ.drop 24)
 |_=>none
noncomputable def si (as:List V)(σ:Sg):Option (Rs V×Sg):=match lim aR cG (.ca 20 (.fn 840) (.ref 13::as)) (σ.take 22) with
 |some (.ok (.v (.ref j)),τ)=>(match ay τ j with
  |some (.list aM)=>(match ay τ 7 with
   |some (.dict [])=>some (.ok (.ref (22+(σ.drop 22).length)),τ.take 22++σ.drop 22++[.list aM])
   |_=>some (.ok (.ref (22+(σ.drop 22).length+2)),bG (τ.take 22) 7 (.dict [(sl "e",.ref (22+(σ.drop 22).length+1))])++σ.drop 22++[gz,.inst 921 (22+(σ.drop 22).length),.list aM]))
  |_=>none)
 |some (.exc,τ)=>some (.exc,τ.take 22++σ.drop 22)
 |_=>none
noncomputable def wg (o:O)(as:List V)(σ:Sg):Option (Rs V×Sg):=match lim aR cG (.ca 20 (.fn 840) (.ref 13::as)) (bG (σ.take 22) 7 (.dict [(sl "e",.ref 23)])++[gz,.inst 921 22]) with
 |some (.ok (.v (.ref j)),τ)=>(match ay τ j with
  |some (.list aM)=>some (.ok (.ref (22+(σ.drop 22).length)),bG (τ.take 22) 7 o++σ.drop 22++[.list aM])
  |_=>none)
 |some (.exc,τ)=>some (.exc,bG (τ.take 22) 7 o++σ.drop 22)
 |_=>none
noncomputable def Vy (as:List V)(σ:Sg):Option (Rs V×Sg):=match ay σ 7 with
 |some (.dict [])=>si as σ
 |some o=>wg o as σ
 |none=>none
noncomputable def fU:Nat->List V->Mo V:=λZ av σ=>match av with
 |.ref 15::as=>wk as σ
 |.ref 13::as=>Vy as σ
 |_=>none
section
variable {ps:List V}{c c':Co}{T h:ak}{pl:Int}{k w:ak}{p:Int}
theorem qq:(cN ps c T pl h).length=24:=rfl
theorem tV (c:Co):dj c.jh=true:=by
 obtain⟨st,hd,sz⟩:=c;induction hd<;>rfl
theorem yr (c:Co):dj c.names=true:=by
 obtain⟨st,hd,sz⟩:=c;exact match st with
 | 0=>rfl
 | 1=>rfl
 | 2=>rfl
 |_+3=>rfl
theorem qt (bS:dj ps=true):eP (cY 24) (cN ps c T pl h)=true:=by
 obtain h1: dq (cY 24) ps=true:=gP bS;obtain h2: dq (cY 24) c.jh=true:=gP (tV c);obtain h3: dq (cY 24) c.names=true:=gP (yr c);obtain e:eP (cY 24) (cN ps c T pl h)=(dq (cY 24) ps&&(dq (cY 24) c.jh&&(dq (cY 24) c.names&&true))):=rfl;rw[e,h1,h2,h3];rfl
theorem jW {τ aC:List O}(h:τ.take n=aC)(hl:aC.length=n)(hi:i<n):ay τ i=ay aC i:=by
 rw[<- h,I3 hi]
theorem ZG (e:bp aR cG (.ca 20 (.fn 840) [.ref 15,.str k,.str w,.int p]) (cN ps c T pl h) (.ok (.v (.ref j))) τ)(ht:τ.take 24=cN ps c' T pl h)(hj:ay τ j=some (.list aM))(k7:24<=j)(bS:dj ps=true)(eo:dj aM=true)(hd:20<=d)(aq:Sg):fM aR cG 840 fU d [.ref 15,.str k,.str w,.int p] (cN ps c T pl h++aq)=some (.ok (.ref (24+aq.length)),cN ps c' T pl h++aq++[.list aM]):=by
 obtain hw: fU d [.ref 15,.str k,.str w,.int p] (cN ps c T pl h++aq)=some (.ok (.ref (24+aq.length)),cN ps c' T pl h++aq++[.list aM]):=by
  show wk _ _=_;unfold wk;rw[show(cN ps c T pl h++aq).take 24=cN ps c T pl h from rfl,show(cN ps c T pl h++aq).drop 24=aq from rfl,o6 e];dsimp only;rw[hj];skip;rw[ht]
 refine oZ hw ?_;refine oE (bp.pz (r:=.ok (.ref j)) e) ?_;rintro n hr;obtain gl:∀i,cY 24 i=true->cq 24 0 (cN ps c T pl h++aq).length j (λZ=>0) i=i:=λi hi=>if_pos (eF.mp hi);have gj:cq 24 0 (cN ps c T pl h++aq).length j (λZ=>0) j=24+aq.length:=by
  unfold cq;rw[if_neg (d8.mpr k7),if_neg (d8.mpr k7),bk,qq];lia
 obtain J:=tW (P:=aR) (Γ:=cG) (a:=840) (d:=d) (as:=[.ref 15,.str k,.str w,.int p]) (dm:=cN ps c T pl h) (σ:=cN ps c T pl h++aq) (aj:=cN ps c' T pl h++aq++[.list aM]) (rs:=.ok (.ref j)) (τ:=τ) 24 0 1 j (λZ=>0) hd hr rfl
  (λj hj=>by lia) (λi j hi=>by lia) (by rw[bk,qq];exact(dK 24 (ew aq))) (k7) (qt bS) rfl
  (λv hv=>by(refine dI hv ?_);show d6 24 0 j 1 j=true;unfold d6;simp[cE])
  (λi hi=>by
   unfold d6 at hi;rw[jk,cc]at hi;refine aG hi ?_ (kA ?_)
   ·rintro hi;have hi:=eF.mp hi;refine oE (qm (l:=cN ps c' T pl h) (i:=i) hi) ?_;rintro o ho;refine(aP o ((jW ht rfl hi).trans ho) ?_);have af:=jm (qt (c:=c') (T:=T) (pl:=pl) (h:=h) bS) ho;exact vS (λk hk=>by unfold d6;rw[jk];exact .inl hk) af
   ·rintro h1 h2;obtain h1:=dA h1;obtain h2:=eF.mp h2;(refine il (show i=j by exact xK h1 h2) ?_);exact(aP _ hj (gP eo)))
  (λj hj=>by lia)
  (λi o ho=>by
   have hi:=bK ho;rw[gl i (eF.mpr hi),dB (hi),ho,nU gl (jm (qt bS) ho)])
  (λi o hi ho=>by
   rw[jW ht rfl hi]at ho;rw[bM,dB (hi),ho,nU gl (jm (qt bS) ho)])
  (λi h1 h2=>by
   rw[bk,qq]at h2;obtain⟨i,rfl⟩:∃x,i=24+x:=⟨i-24,by exact eG (pW h1)⟩;rw[bM];rw[show 24+i=(cN ps c' T pl h).length+i from rfl,eE,dB (A8 h2)];rw[show(cN ps c' T pl h).length+i=(cN ps c T pl h).length+i from rfl,eE])
  (λx o hx ho=>by
   obtain rfl:x=0:=by exact BO.mp hx
   rw[jT,hj]at ho;(refine aT ho ?_);rw[jT];show ay (cN ps c' T pl h++aq++[O.list aM]) (cN ps c T pl h++aq).length=some (.list (eU _ aM));rw[mW eo];have af:=eE (l:=cN ps c' T pl h++aq) (r:=[O.list aM]) (i:=0);rw[jT]at af;rw[show(cN ps c T pl h++aq).length=(cN ps c' T pl h++aq).length by simp[qq]];exact af)
  (by simp[qq];exact eG (eG (aH (24+(ew aq+1)))))
 obtain e1:eU (cq 24 0 (cN ps c T pl h++aq).length j λZ=>0) [.ref 15,.str k,.str w,.int p]=[.ref 15,.str k,.str w,.int p]:=rfl;obtain e2: qL (cq 24 0 (cN ps c T pl h++aq).length j λZ=>0) (.ok (.ref j))=.ok (.ref (24+aq.length)):=by
  show Rs.ok (V.ref _)=_;rw[gj]
 rw[e1,e2]at J;exact J
theorem XY (e:bp aR cG (.ca 20 (.fn 840) [.ref 15,.str k,.str w,.int p]) (cN ps c T pl h) .exc τ)(ht:τ.take 24=cN ps c' T pl h)(bS:dj ps=true)(hd:20<=d)(aq:Sg):fM aR cG 840 fU d [.ref 15,.str k,.str w,.int p] (cN ps c T pl h++aq)=some (.exc,cN ps c' T pl h++aq):=by
 obtain hw: fU d [.ref 15,.str k,.str w,.int p] (cN ps c T pl h++aq)=some (.exc,cN ps c' T pl h++aq):=by
  show wk _ _=_;unfold wk;rw[show(cN ps c T pl h++aq).take 24=cN ps c T pl h from rfl,show(cN ps c T pl h++aq).drop 24=aq from rfl,o6 e];dsimp only;rw[ht]
 refine oZ hw ?_;refine oE (bp.pz (r:=.exc) e) ?_;rintro n hr;obtain gl:∀i,cY 24 i=true->cq 24 0 (cN ps c T pl h++aq).length 24 (λZ=>0) i=i:=λi hi=>if_pos (eF.mp hi);obtain J:=tW (P:=aR) (Γ:=cG) (a:=840) (d:=d) (as:=[.ref 15,.str k,.str w,.int p]) (dm:=cN ps c T pl h) (σ:=cN ps c T pl h++aq) (aj:=cN ps c' T pl h++aq) (rs:=.exc) (τ:=τ) 24 0 0 24 (λZ=>0) hd hr rfl
  (λj hj=>by lia) (λi j hi=>by lia) (by rw[bk,qq];exact(dK 24 (ew aq))) ((bc (24+0))) (qt bS) rfl
  (λv hv=>by exact nC Zq.Rs.ctorIdx hv rfl)
  (λi hi=>by
   unfold d6 at hi;rw[jk,cc]at hi;refine aG hi ?_ (kA ?_)
   ·rintro hi;have hi:=eF.mp hi;refine oE (qm (l:=cN ps c' T pl h) (i:=i) hi) ?_;rintro o ho;refine(aP o ((jW ht rfl hi).trans ho) ?_);have af:=jm (qt (c:=c') (T:=T) (pl:=pl) (h:=h) bS) ho;exact vS (λk hk=>by unfold d6;rw[jk];exact .inl hk) af
   ·rintro h1 h2;obtain h1:= dA h1;obtain h2:= eF.mp h2;lia)
  (λj hj=>by lia)
  (λi o ho=>by
   have hi:=bK ho;rw[gl i (eF.mpr hi),dB (hi),ho,nU gl (jm (qt bS) ho)])
  (λi o hi ho=>by
   rw[jW ht rfl hi]at ho;rw[dB (hi),ho,nU gl (jm (qt bS) ho)])
  (λi h1 h2=>by
   rw[bk,qq]at h2;obtain⟨i,rfl⟩:∃x,i=24+x:=⟨i-24,by exact eG (pW h1)⟩;rw[show 24+i=(cN ps c' T pl h).length+i from rfl,eE];rw[show(cN ps c' T pl h).length+i=(cN ps c T pl h).length+i from rfl,eE])
  (λx o hx ho=>by lia)
  (by simp[qq])
 exact J
end
noncomputable def sR:List bO->Expr×List bO
 |s::r=>sD s (sR r) (zb:=λt b Z Z=>(t,b))
 |[]=>(.Name (sl "") ⟨0,0,0,0⟩,[])
noncomputable def lG:List bO->Expr×List bO
 |s::r=>sD s (lG r) (kFor:=λt Z b Z Z=>(t,b))
 |[]=>(.Name (sl "") ⟨0,0,0,0⟩,[])
noncomputable def fm (o:Option FI)(loc:List (ak×V))(d:Nat):Fm:={sc:=(dC o).scope,loc:=loc,cz:=[],d:=d,ro:=(dC o).ro}
abbrev aa (t:ak):List Nat:=t.cps.toList
abbrev ch (c:Nat):ak:=⟨#[c]⟩
noncomputable def sm (t:ak):Prop:=(aa t).length<=4096
theorem aK {P:PE}{Γ:ax->Option (Nat->List V->Mo V)}{j:Jb}{σ aj:Sg}{r:Rs An}{F:Prop}(n:Nat)(O:List Or)(f:(r=r/\aj=aj)->F)(e:F=ux P Γ n j σ O (λx τ Z=>x=r/\τ=aj):=by kernel_rfl):bp P Γ j σ r aj :=
 path P Γ (Eq.mp e (f ⟨rfl,rfl⟩))
variable {G:Nat->Option (Nat->List V->Mo V)}
theorem iI (h:n<=16777216):fits n=true:=lg h
theorem sm.fits {t:ak}(h:sm t):fits (aa t).length=true:=iI (by unfold sm at h;exact bC h (cJ 4096 16773120))
theorem dW (σ:Sg)(h:sm t):cw .len [.str t] σ=some (.ok (.int (aa t).length),σ):=by
 show(match Zq.fits (aa t).length with|true=>rt (V.int (.ofNat (aa t).length))|false=>no) σ=_;rw[h.fits];rfl
theorem iZ (σ:Sg)(h:sm t)(e:ay (aa t) i=some c):iu (.str t) (.int (i:Nat)) σ=some (.ok (.str (ch c)),σ):=by
 obtain hi:= bK e;show aX ((rV t (.ofNat i)).map V.str) σ=_;obtain af: rV t (.ofNat i)=some (ch c):=by
  unfold rV place;rw[h.fits];dsimp only;rw[show cE i (aa t).length=true from lg hi];dsimp only;rw[e];rfl
 rw[af];rfl
theorem rQ:∀{l} {i} {c} {r:List α},l.drop i=c::r->ay l i=some c/\l.drop (i+1)=r
 |[],i,_,_,h=>by simp at h
 |a::l,0,_,_,h=>by cases h;exact⟨rfl,rfl⟩
 |a::l,i+1,_,_,h=>rQ (l:=l) (i:=i) h
noncomputable def jt:List Nat->Nat->Option Nat->Option Nat
 |[],_,_=>none
 |c::r,i,none=>match subIn [c] [34,39] with
  |true=>jt r (i+1) (some c)
  |false=>(match bx c 62 with
   |true=>some (i+1)
   |false=>(match bx c 60 with
    |true=>some i
    |false=>jt r (i+1) none))
 |c::r,i,some q=>match bx q c with
  |true=>jt r (i+1) none
  |false=>jt r (i+1) (some q)
theorem Xd (q c:Nat)(r:List Nat):dh [q] (c::r)=bx q c:=by
 simp[dh];induction h:bx q c with
 |true=>simp[eS h]
 |false=>simp[vd h]
theorem G3 (q i c:Nat)(r:List Nat):fz [q] i (c::r)=(match bx q c with|true=>some i|false=>fz [q] (i+1) r):=by
 show(match dh [q] (c::r) with|true=>some i|false=>fz [q] (i+1) r)=_;rw[Xd]
theorem KC:∀(l:List Nat) (i q:Nat),jt l i (some q)=(match fz [q] i l with|none=>none|some p=>jt (l.drop (p+1-i)) (p+1) none)
 |[],i,q=>rfl
 |c::r,i,q=>by
  rw[G3];show(match bx q c with|true=>jt r (i+1) none|false=>jt r (i+1) (some q))=_;induction bx q c with
  |true =>
   dsimp only;rw[show i+1-i=1 by exact Nat.add_sub_self_left i 1];rfl
  |false =>
   dsimp only;rw[KC r (i+1) q];induction h:fz [q] (i+1) r with
   |none=>rfl
   |some p =>
    dsimp only;obtain af: i+1<=p:=by
     obtain af: ∀(l:List Nat) (i p:Nat),fz [q] i l=some p->i<=p:=λl=>by
      induction l with
      |nil=>intro i p h;exact nS h
      |cons c r ih =>
       intro i p h;rw[G3]at h;induction hb:bx q c with
       |true=>rw[hb]at h;(refine dP h ?_);exact bc _
       |false=>rw[hb]at h;obtain af:= ih _ _ h;exact bC (iF i) af
     exact af _ _ _ h
    rw[show p+1-i=(p+1-(i+1))+1 by lia,List.drop_succ_cons]
theorem Lm:∀{l} {i p},fz [q] i l=some p->i<=p/\p<i+l.length
 |[],i,p,h=>by exact nS h
 |c::r,i,p,h=>by
  rw[G3]at h;induction hb:bx q c with
  |true=>rw[hb]at h;(refine aT h ?_;clear h p);simp
  |false=>rw[hb]at h;obtain af:= Lm h;simp;lia
theorem jK (c d:Nat):bg (ch c) (ch d)=bx c d:=by
 show o7 [c] [d]=_;dsimp only[o7];induction bx c d<;>rfl
noncomputable def wd (t:ak)(a:Int)(s:Option ak):List (ak×V):=match s with
 |none=>[(sl "text",.str t),(sl "at",.int a)]
 |some s=>[(sl "text",.str t),(sl "at",.int a),(sl "sign",.str s)]
abbrev Ms (d:Nat)(t:ak)(a:Int)(s:Option ak):Jb:=.wh (fm qj (wd t a s) d) (sR (dC qj).body).1 (sR (dC qj).body).2
noncomputable def Xw (G:Nat->Option (Nat->List V->Mo V))(d:Nat)(t:ak)(a:Int)(s:Option ak)(σ:Sg)(r:Option Nat):Prop :=
 ∃fl U,bp aR (bJ G) (Ms d t a s) σ (.ok (.f fl U)) σ/\(match r with
  |some m=>fl=.ret (.int m)
  |none=>fl=.next\/fl=.ret .none)
theorem Sx (h:sm t):∀(n a:Nat) (s:Option ak),(aa t).length<=a+n->Xw G d t a s σ (jt ((aa t).drop a) a none):=by
 intro n;induction n using Nat.strongRecOn with
 |ind n ih =>
 intro a s hn;induction hd:(aa t).drop a using aQ with
 |nil =>
  have hl:(aa t).length<=a:=by simpa using hd
  refine(cF (.next) (fm qj (wd t a s) d) ?_ (.inl rfl));have c1:decide ((a:Int)<((aa t).length:Int))=false:=decide_eq_false (by lia);induction s<;>exact aK 40 [.go,.o (.int (aa t).length),.b false] (λz=>ae (dW σ h) (ae c1 z))
 |cons c r =>
  refine oA (rQ hd) ?_;rintro e1 e2;have hl:=bK e1;have c1:decide ((a:Int)<((aa t).length:Int))=true:=decide_eq_true (by exact yy.mpr hl);induction hq:subIn [c] [34,39] with
  |true =>
   have hs:iQ t (ch c) (a+1)=(match fz [c] (a+1) r with|some i=>lq i|none=>-1):=by
    unfold iQ;rw[show fG (a+1) (aa t).length=true from lg hl,e2]
    try rfl
   obtain e3: jt (c::r) a none=jt r (a+1) (some c):=by
    show(match subIn [c] [34,39] with|true=>_|false=>_)=_;rw[hq]
   rw[e3,KC];induction hf:fz [c] (a+1) r with
   |none =>
    rw[hf]at hs;have c2:decide (iQ t (ch c) (a+1)<0)=true:=by rw[hs];rfl
    refine(cF (.ret .none) (fm qj (wd t (iQ t (ch c) (a+1)) (some (ch c))) d) ?_ (.inr rfl));induction s<;>exact aK 40 [.go,.o (.int (aa t).length),.b true,.o (.str (ch c)),.b true,.b true] (λz=>ae (dW σ h) (ae c1 (ae (iZ σ h e1) (ae hq (ae c2 z)))))
   |some p =>
    rw[hf]at hs;have hp:=Lm hf;have c2:decide (iQ t (ch c) (a+1)<0)=false:=by rw[hs];rfl
    obtain hrl: r.length=(aa t).length-(a+1):=by rw[<- e2];simp
    obtain rc:= ih ((aa t).length-(p+1)) (by lia) (p+1) (some (ch c)) (by lia);rw[show(aa t).drop (p+1)=r.drop (p+1-(a+1)) from by rw[<- e2,tJ];congr 1;lia]at rc;refine dc rc ?_;clear rc;rintro fl U ev cC;refine(cF fl U ?_ cC);have ev:bp aR (bJ G) (Ms d t (iQ t (ch c) (a+1)+1) (some (ch c))) σ (.ok (.f fl U)) σ:=by rw[hs];exact ev
    induction s<;>exact aK 40 [.go,.o (.int (aa t).length),.b true,.o (.str (ch c)),.b true,.b false,.j (.ok (.f fl U)) σ] (λz=>ae (dW σ h) (ae c1 (ae (iZ σ h e1) (ae hq (ae c2 (ae ev z))))))
  |false =>
   obtain e3: jt (c::r) a none=(match bx c 62 with
    |true=>some (a+1)
    |false=>(match bx c 60 with
     |true=>some a
     |false=>jt r (a+1) none)):=by
    show(match subIn [c] [34,39] with|true=>_|false=>_)=_;rw[hq]
   rw[e3];induction OB:bx c 62 with
   |true =>
    refine(cF (.ret (.int (a+1))) (fm qj (wd t a (some (ch c))) d) ?_ rfl);have c3:bg (ch c) (ch 62)=true:=by rw[jK];exact OB
    induction s<;>exact aK 40 [.go,.o (.int (aa t).length),.b true,.o (.str (ch c)),.b false,.b true] (λz=>ae (dW σ h) (ae c1 (ae (iZ σ h e1) (ae hq (ae c3 z)))))
   |false =>
    have c3:bg (ch c) (ch 62)=false:=by rw[jK];exact OB
    induction Og:bx c 60 with
    |true =>
     refine(cF (.ret (.int a)) (fm qj (wd t a (some (ch c))) d) ?_ rfl);have c4:bg (ch c) (ch 60)=true:=by rw[jK];exact Og
     induction s<;>exact aK 40 [.go,.o (.int (aa t).length),.b true,.o (.str (ch c)),.b false,.b false,.b true] (λz=>ae (dW σ h) (ae c1 (ae (iZ σ h e1) (ae hq (ae c3 (ae c4 z))))))
    |false =>
     have c4:bg (ch c) (ch 60)=false:=by rw[jK];exact Og
     obtain rc:= ih ((aa t).length-(a+1)) (by lia) (a+1) (some (ch c)) (by lia);rw[e2]at rc;refine dc rc ?_;clear rc;rintro fl U ev cC;refine(cF fl U ?_ cC);induction s<;>exact aK 40 [.go,.o (.int (aa t).length),.b true,.o (.str (ch c)),.b false,.b false,.b false,.j (.ok (.f fl U)) σ] (λz=>ae (dW σ h) (ae c1 (ae (iZ σ h e1) (ae hq (ae c3 (ae c4 (ae ev z)))))))
noncomputable def kH:Option Nat->V
 |some n=>.int n
 |none=>.none
theorem P9 (h:sm t):bp aR (bJ G) (.ca (d+1) (.fn 505) [.str t]) σ (.ok (.v (kH (jt ((aa t).drop 1) 1 none)))) σ:=by
 refine dc (Sx (G:=G) (d:=d) (σ:=σ) h (aa t).length 1 none ((cJ (aa t).length 1))) ?_;rintro fl U ev cC;induction hr:jt ((aa t).drop 1) 1 none with
 |some m =>
  rw[hr]at cC;obtain cC:=cC;subst cC;exact aK 40 [.go,.j (.ok (.f (.ret (.int m)) U)) σ] (λz=>ae ev z)
 |none =>
  rw[hr]at cC;refine aG cC ?_ ?_
  ·clear cC;rintro rfl;exact aK 40 [.go,.j (.ok (.f .next U)) σ] (λz=>ae ev z)
  ·clear cC;rintro rfl;exact aK 40 [.go,.j (.ok (.f (.ret .none) U)) σ] (λz=>ae ev z)
variable {G:Nat->Option (Nat->List V->Mo V)}
noncomputable def eQ (t w:List Nat)(s:Nat):Option Nat:=match fG s t.length with
 |true=>(match fz w s (t.drop s) with
  |some p=>some (p+w.length)
  |none=>none)
 |false=>none
theorem LJ:∀{l} {i p},fz w i l=some p->i<=p
 |[],i,p,h=>by
  dsimp only[fz]at h;split at h
  ·(refine aT h ?_;clear h p);exact bc _
  ·exact nS h
 |c::r,i,p,h=>by
  dsimp only[fz]at h;split at h
  ·(refine aT h ?_;clear h p);exact bc _
  ·obtain af:= LJ h;exact bC (iF i) af
set_option tactic.hygienic true in
theorem CY (h:eQ t w s=some p):s+w.length<=p:=by
 unfold eQ at h;split at h
 ·split at h
  ·rename_i q hq;(refine aT h ?_;clear h p);obtain af:= LJ hq;exact Nat.add_le_add af (bc w.length)
  ·exact nS h
 ·exact nS h
set_option tactic.hygienic true in
theorem qi (hw:sm w):bp aR (bJ G) (.ca (d+1) (.fn 498) [.str t,.str w,.int (s:Nat)]) σ (.ok (.v (kH (eQ (aa t) (aa w) s)))) σ:=by
 have hs:iQ t w s=(match fG s (aa t).length with
  |true=>(match fz (aa w) s ((aa t).drop s) with|some i=>lq i|none=>-1)
  |false=>-1):=rfl
 induction hb:eQ (aa t) (aa w) s with
 |none =>
  obtain h1: iQ t w s=-1:=by
   rw[hs];unfold eQ at hb;split at hb
   ·rename_i h1;split at hb
    ·exact sN hb
    ·rename_i h2;first|rfl|rw[h2]|(rw[h1];dsimp only;rw[h2])
   ·first|rfl|(rename_i h1;rw[h1])
  obtain c1: decide (iQ t w s<0)=true:=by rw[h1];rfl
  exact aK 40 [.go,.b true] (λz=>ae c1 z)
 |some p =>
  obtain h1: ∃q,iQ t w s=lq q/\p=q+(aa w).length:=by
   unfold eQ at hb;split at hb
   ·rename_i h1;rw[hs,h1];split at hb
    ·rename_i q h2;(refine aT hb ?_;clear hb p);exact(aP q (by simp only[h2]) rfl)
    ·exact nS hb
   ·exact nS hb
  refine aO h1 ?_;clear h1;clear hb;rintro q h1 rfl;obtain c1: decide (iQ t w s<0)=false:=by rw[h1];rfl
  obtain e: iQ t w s+((aa w).length:Int)=((q+(aa w).length:Nat):Int):=by rw[h1];rfl
  show bp aR (bJ G) _ σ (.ok (.v (.int ((q+(aa w).length:Nat):Int)))) σ;rw[<- e];exact aK 40 [.go,.b false,.o (.int (aa w).length)] (λz=>ae c1 (ae (dW σ hw) z))
noncomputable def mb (t w:List Nat):Bool:=match cE t.length w.length with
 |true=>dh t w
 |false=>false
theorem DL (ht:sm t)(hw:sm w):bp aR (bJ G) (.ca (d+1) (.fn 491) [.str t,.str w]) σ (.ok (.v (.bool (mb (aa t) (aa w))))) σ:=by
 unfold mb;induction h:cE (aa t).length (aa w).length with
 |true =>
  obtain hl:=dA h;obtain c1:=decide_eq_true (yy.mpr hl);have e:nT w t 0=dh (aa t) (aa w):=rfl;dsimp only;rw[<- e];exact aK 40 [.go,.o (.int (aa t).length),.o (.int (aa w).length),.b true] (λz=>ae (dW σ ht) (ae (dW σ hw) (ae c1 z)))
 |false =>
  obtain hl: ¬(aa t).length<(aa w).length:=λq=>by rw[show cE (aa t).length (aa w).length=true from lg q]at h;exact tF h
  have c1:decide (((aa t).length:Int)<((aa w).length:Int))=false:=decide_eq_false (by lia);obtain ev: bp aR (bJ G) (.ca (d+1) (.fn 491) [.str t,.str w]) σ (.ok (.v (.bool (decide (((aa t).length:Int)<((aa w).length:Int)))))) σ:=aK 40 [.go,.o (.int (aa t).length),.o (.int (aa w).length),.b false] (λz=>ae (dW σ ht) (ae (dW σ hw) (ae c1 z)));rw[c1]at ev;exact ev
noncomputable def qV:List Nat:=[60,33,45,45]
noncomputable def uZ:List Nat:=[60,63]
noncomputable def kJ:Nat->List Nat->Nat->Bool->Option Nat
 | 0,_,_,_=>none
 |f+1,t,a,w=>match t.drop a with
  |[]=>none
  |c::r=>match dh qV (c::r) with
   |true=>(match eQ t [45,45,62] (a+4) with
    |some p=>kJ f t p w
    |none=>none)
   |false=>match dh uZ (c::r) with
    |true=>(match eQ t [63,62] (a+2) with
     |some p=>kJ f t p w
     |none=>none)
    |false=>match subIn [c] [34,39] with
     |true=>(match eQ t [c] (a+1) with
      |some p=>kJ f t p w
      |none=>none)
     |false=>match bx c 62 with
      |true=>(match w with
       |false=>some (a+1)
       |true=>kJ f t (a+1) true)
      |false=>match bx c 91 with
       |true=>kJ f t (a+1) true
       |false=>match bx c 93 with
        |true=>kJ f t (a+1) false
        |false=>kJ f t (a+1) w
noncomputable def zc (t:ak)(a:V)(w:Bool)(s:Option ak):List (ak×V):=match s with
 |none=>[(sl "text",.str t),(sl "at",a),(sl "is_within",.bool w)]
 |some s=>[(sl "text",.str t),(sl "at",a),(sl "is_within",.bool w),(sl "sign",.str s)]
abbrev Mi (d:Nat)(t:ak)(a:V)(w:Bool)(s:Option ak):Jb:=.wh (fm rG (zc t a w s) d) (sR (dC rG).body).1 (sR (dC rG).body).2
noncomputable def EU (G:Nat->Option (Nat->List V->Mo V))(d:Nat)(t:ak)(a:V)(w:Bool)(s:Option ak)(σ:Sg)(r:Option Nat):Prop :=
 ∃fl U,bp aR (bJ G) (Mi d t a w s) σ (.ok (.f fl U)) σ/\(match r with
  |some m=>fl=.ret (.int m)
  |none=>fl=.next)
theorem R8:EU G d t .none w s σ none:=by
 refine(cF (.next) (fm rG (zc t .none w s) d) ?_ rfl);induction s<;>exact aK 40 [.go,.b false,.b false] (λz=>ae (aH false) (ae (aH false) z))
theorem zl (h:(aa t).drop a=c::r)(hl:a<(aa t).length):nT t ⟨⟨w⟩⟩ a=dh w (c::r):=by
 unfold nT;rw[show fG a (aa t).length=true from lg (by exact bC (iF a) hl),h]
theorem Sj (h:sm t):∀(n a:Nat) (w:Bool) (s:Option ak),(aa t).length<=a+n->EU G (d+1) t (.int a) w s σ (kJ (n+1) (aa t) a w):=by
 intro n;induction n using Nat.strongRecOn with
 |ind n ih =>
 intro a w s hn;dsimp only[kJ];induction hd:(aa t).drop a using aQ with
 |nil =>
  obtain hl:(aa t).length<=a:=by simpa using hd
  refine(cF (.next) (fm rG (zc t (.int a) w s) (d+1)) ?_ rfl);have c1:decide ((a:Int)<((aa t).length:Int))=false:=decide_eq_false (by lia);induction s<;>exact aK 40 [.go,.b true,.o (.int (aa t).length),.b false,.b false] (λz=>ae (aH true) (ae (dW σ h) (ae c1 (ae (aH false) z))))
 |cons c r =>
  refine oA (rQ hd) ?_;rintro e1 e2;have hl:=bK e1;have c1:=decide_eq_true (yy.mpr hl);obtain⟨n,rfl⟩:∃m,n=m+1:=⟨n-1,by lia⟩;have zI:∀(o:Option Nat),(∀p,o=some p->a<p)->∃fl U,bp aR (bJ G) (Mi (d+1) t (kH o) w (some (ch c))) σ (.ok (.f fl U)) σ/\(match (match o with|some p=>kJ (n+1) (aa t) p w|none=>none) with
   |some m=>fl=.ret (.int m)
   |none=>fl=.next):=λo ho=>by
   induction o with
   |none=>exact R8
   |some p=>exact ih n ((bc n.succ)) p w (some (ch c)) (by have af:=ho p rfl;lia)
  obtain go:∀(w':Bool),EU G (d+1) t (.int ((a+1:Nat):Int)) w' (some (ch c)) σ (kJ (n+1) (aa t) (a+1) w'):=λw'=>ih n ((bc n.succ)) (a+1) w' (some (ch c)) (by lia);have xG:=hd;dsimp only;induction h1:dh qV (c::r) with
  |true =>
   have b1:nT t (sl "<!--") a=true:=(zl (w:=qV) xG hl).trans h1;refine dc (zI (eQ (aa t) [45,45,62] (a+4)) λp hp=>by have af:=CY hp;exact HG (Hh af)) ?_;rintro fl U ev cC;refine(cF fl U ?_ cC);have eb:=qi (G:=G) (d:=d) (s:=a+4) (t:=t) (w:=sl "-->") (σ:=σ) (by unfold sm;decide);induction s<;>exact aK 40 [.go,.b true,.o (.int (aa t).length),.b true,.b true,.o (.str (ch c)),.b true,.o (.int 4),.o (kH (eQ (aa t) [45,45,62] (a+4))),.j (.ok (.f fl U)) σ] (λz=>ae (aH true) (ae (dW σ h) (ae c1 (ae (aH true) (ae (iZ σ h e1) (ae b1 (ae (dW (t:=sl "<!--") σ (by unfold sm;decide)) (ae eb (ae ev z)))))))))
  |false =>
   have b1:=(zl (w:=qV) xG hl).trans h1;dsimp only;induction h2:dh uZ (c::r) with
   |true =>
    have b2:=(zl (w:=uZ) xG hl).trans h2;refine dc (zI (eQ (aa t) [63,62] (a+2)) λp hp=>by have af:=CY hp;exact ky (ve af)) ?_;rintro fl U ev cC;refine(cF fl U ?_ cC);obtain eb:=qi (G:=G) (d:=d) (s:=a+2) (t:=t) (w:=sl "?>") (σ:=σ) (by unfold sm;decide);induction s<;>exact aK 40 [.go,.b true,.o (.int (aa t).length),.b true,.b true,.o (.str (ch c)),.b false,.b true,.o (kH (eQ (aa t) [63,62] (a+2))),.j (.ok (.f fl U)) σ] (λz=>ae (aH true) (ae (dW σ h) (ae c1 (ae (aH true) (ae (iZ σ h e1) (ae b1 (ae b2 (ae eb (ae ev z)))))))))
   |false =>
    obtain b2:=(zl (w:=uZ) xG hl).trans h2;dsimp only;induction h3:subIn [c] [34,39] with
    |true =>
     refine dc (zI (eQ (aa t) [c] (a+1)) λp hp=>by have af:=CY hp;exact bC (iF a.succ) af) ?_;rintro fl U ev cC;refine(cF fl U ?_ cC);obtain eb:=qi (G:=G) (d:=d) (s:=a+1) (t:=t) (w:=ch c) (σ:=σ) (by unfold sm;show 1<=4096;decide);induction s<;>exact aK 40 [.go,.b true,.o (.int (aa t).length),.b true,.b true,.o (.str (ch c)),.b false,.b false,.b true,.o (kH (eQ (aa t) [c] (a+1))),.j (.ok (.f fl U)) σ] (λz=>ae (aH true) (ae (dW σ h) (ae c1 (ae (aH true) (ae (iZ σ h e1) (ae b1 (ae b2 (ae h3 (ae eb (ae ev z))))))))))
    |false =>
     dsimp only;induction h4:bx c 62 with
     |true =>
      have s4:bg (ch c) (ch 62)=true:=by rw[jK];exact h4
      have hc:=eS h4;clear zI;induction w with
      |false =>
       refine(cF (.ret (.int (a+1))) (fm rG (zc t (.int a) false (some (ch c))) (d+1)) ?_ rfl);induction s<;>exact aK 40 [.go,.b true,.o (.int (aa t).length),.b true,.b true,.o (.str (ch c)),.b false,.b false,.b false,.b true,.b true,.b true] (λz=>ae (aH true) (ae (dW σ h) (ae c1 (ae (aH true) (ae (iZ σ h e1) (ae b1 (ae b2 (ae h3 (ae s4 (ae (aH true) (ae (aH true) z)))))))))))
      |true =>
       refine dc (go true) ?_;rintro fl U ev cC;refine(cF fl U ?_ cC);have s5:bg (ch c) (ch 91)=false:=by rw[jK,hc];rfl
       have s6:bg (ch c) (ch 93)=false:=by rw[jK,hc];rfl
       induction s<;>exact aK 40 [.go,.b true,.o (.int (aa t).length),.b true,.b true,.o (.str (ch c)),.b false,.b false,.b false,.b true,.b false,.b false,.b false,.b false,.j (.ok (.f fl U)) σ] (λz=>ae (aH true) (ae (dW σ h) (ae c1 (ae (aH true) (ae (iZ σ h e1) (ae b1 (ae b2 (ae h3 (ae s4 (ae (aH false) (ae (aH false) (ae s5 (ae s6 (ae ev z))))))))))))))
     |false =>
      obtain s4:bg (ch c) (ch 62)=false:=by rw[jK];exact h4
      dsimp only;induction h5:bx c 91 with
      |true =>
       have s5:bg (ch c) (ch 91)=true:=by rw[jK];exact h5
       refine dc (go true) ?_;rintro fl U ev cC;refine(cF fl U ?_ cC);induction s<;>exact aK 40 [.go,.b true,.o (.int (aa t).length),.b true,.b true,.o (.str (ch c)),.b false,.b false,.b false,.b false,.b false,.b true,.j (.ok (.f fl U)) σ] (λz=>ae (aH true) (ae (dW σ h) (ae c1 (ae (aH true) (ae (iZ σ h e1) (ae b1 (ae b2 (ae h3 (ae s4 (ae (aH false) (ae s5 (ae ev z))))))))))))
      |false =>
       obtain s5:bg (ch c) (ch 91)=false:=by rw[jK];exact h5
       dsimp only;induction h6:bx c 93 with
       |true =>
        have s6:bg (ch c) (ch 93)=true:=by rw[jK];exact h6
        refine dc (go false) ?_;rintro fl U ev cC;refine(cF fl U ?_ cC);induction s<;>exact aK 40 [.go,.b true,.o (.int (aa t).length),.b true,.b true,.o (.str (ch c)),.b false,.b false,.b false,.b false,.b false,.b false,.b true,.j (.ok (.f fl U)) σ] (λz=>ae (aH true) (ae (dW σ h) (ae c1 (ae (aH true) (ae (iZ σ h e1) (ae b1 (ae b2 (ae h3 (ae s4 (ae (aH false) (ae s5 (ae s6 (ae ev z)))))))))))))
       |false =>
        have s6:bg (ch c) (ch 93)=false:=by rw[jK];exact h6
        refine dc (go w) ?_;rintro fl U ev cC;refine(cF fl U ?_ cC);induction s<;>exact aK 40 [.go,.b true,.o (.int (aa t).length),.b true,.b true,.o (.str (ch c)),.b false,.b false,.b false,.b false,.b false,.b false,.b false,.j (.ok (.f fl U)) σ] (λz=>ae (aH true) (ae (dW σ h) (ae c1 (ae (aH true) (ae (iZ σ h e1) (ae b1 (ae b2 (ae h3 (ae s4 (ae (aH false) (ae s5 (ae s6 (ae ev z)))))))))))))
noncomputable def zW (t:List Nat):Option Nat:=kJ (t.length+1) t 9 false
theorem OW (h:sm t):bp aR (bJ G) (.ca (d+2) (.fn 512) [.str t]) σ (.ok (.v (kH (zW (aa t))))) σ:=by
 refine dc (Sj (G:=G) (d:=d) (σ:=σ) h (aa t).length 9 false none ((cJ (aa t).length 9))) ?_;rintro fl U ev cC;obtain l9:=dW (t:=sl "<!DOCTYPE") σ (by unfold sm;decide);induction hr:zW (aa t) with
 |some m =>
  rw[show kJ ((aa t).length+1) (aa t) 9 false=some m from hr]at cC;obtain cC:=cC;subst cC;exact aK 40 [.go,.o (.int 9),.j (.ok (.f (.ret (.int m)) U)) σ] (λz=>ae l9 (ae ev z))
 |none =>
  rw[show kJ ((aa t).length+1) (aa t) 9 false=none from hr]at cC;obtain cC:=cC;subst cC;exact aK 40 [.go,.o (.int 9),.j (.ok (.f .next U)) σ] (λz=>ae l9 (ae ev z))
variable {G:Nat->Option (Nat->List V->Mo V)}
abbrev aw (l:List Nat):ak:=⟨⟨l⟩⟩
noncomputable def dD (t:ak):Nat:=match jH t (aw [93,93]) with
 |true=>2
 |false=>(match jH t (aw [93]) with
  |true=>1
  |false=>0)
theorem TX:bp aR (bJ G) (.ca (d+1) (.fn 533) [.str t]) σ (.ok (.v (.int (dD t)))) σ:=by
 unfold dD;induction h1:jH t (aw [93,93]) with
 |true=>exact aK 40 [.go,.b true] (λz=>ae h1 z)
 |false =>
  induction h2:jH t (aw [93]) with
  |true=>exact aK 40 [.go,.b false,.b true] (λz=>ae h1 (ae h2 z))
  |false=>exact aK 40 [.go,.b false,.b false] (λz=>ae h1 (ae h2 z))
noncomputable def bR:List Nat->Nat->Nat
 |[],n=>n
 |c::r,n=>match subIn [c] [60,38] with
  |true=>n
  |false=>bR r (n+1)
noncomputable def uj (t:ak)(a:Option Nat):List (ak×V):=match a with
 |none=>[(sl "text",.str t)]
 |some a=>[(sl "text",.str t),(sl "at",.int a)]
abbrev Ob (d:Nat)(t:ak)(a:Option Nat)(k:Nat):Jb:=.fo (fm oO (uj t a) d) (lG (dC oO).body).1 (.cm k (aa t).length) (lG (dC oO).body).2
theorem Ke (h:sm t):∀(n k:Nat) (a:Option Nat),(aa t).length=k+n ->
 (bR ((aa t).drop k) k<(aa t).length/\∃U,bp aR (bJ G) (Ob d t a k) σ (.ok (.f (.ret (.int (bR ((aa t).drop k) k))) U)) σ) \/
 (bR ((aa t).drop k) k=(aa t).length/\∃a',bp aR (bJ G) (Ob d t a k) σ (.ok (.f .next (fm oO (uj t a') d))) σ)
 | 0,k,a,hn=>by
  right;obtain hd: (aa t).drop k=[]:=rz.mpr (by lia);rw[hd];refine(qY (by show k=_;lia) a ?_);have c1:fB (.cm k (aa t).length) σ=some none:=by
   show(if ((k:Nat):Int)<((aa t).length:Int) then _ else some none)=_;rw[if_neg (by lia)]
  induction a<;>exact aK 40 [.go,.n none] (λz=>ae c1 z)
 |n+1,k,a,hn=>by
  induction hd:(aa t).drop k using aQ with
  |nil=>have af:=rz.mp hd;lia
  |cons c r =>
   refine oA (rQ hd) ?_;rintro e1 e2;obtain hl:= bK e1;have c1:fB (.cm k (aa t).length) σ=some (some (.int k,.cm (k+1) (aa t).length)):=by
    show(if ((k:Nat):Int)<((aa t).length:Int) then _ else some none)=_;rw[if_pos (by lia)]
   induction h1:subIn [c] [60,38] with
   |true =>
    have e3: bR (c::r) k=k:=by
     show(match subIn [c] [60,38] with|true=>k|false=>_)=_;rw[h1]
    left;rw[e3];refine(qY hl (fm oO (uj t (some k)) d) ?_);induction a<;>exact aK 40 [.go,.n (some (.int k,.cm (k+1) (aa t).length)),.o (.str (ch c)),.b true] (λz=>ae c1 (ae (iZ σ h e1) (ae h1 z)))
   |false =>
    obtain e3: bR (c::r) k=bR r (k+1):=by
     show(match subIn [c] [60,38] with|true=>k|false=>_)=_;rw[h1]
    rw[e3,<- e2];refine aG (Ke (d:=d) (σ:=σ) h n (k+1) (some k) (by lia)) (AZ ?_) (AZ ?_)
    ·rintro hx U ev;left;refine(qY hx U ?_);induction a<;>exact aK 40 [.go,.n (some (.int k,.cm (k+1) (aa t).length)),.o (.str (ch c)),.b false,.j (.ok (.f (.ret (.int (bR ((aa t).drop (k+1)) (k+1)))) U)) σ] (λz=>ae c1 (ae (iZ σ h e1) (ae h1 (ae ev z))))
    ·rintro hx a' ev;right;refine(qY hx a' ?_);induction a<;>exact aK 40 [.go,.n (some (.int k,.cm (k+1) (aa t).length)),.o (.str (ch c)),.b false,.j (.ok (.f .next (fm oO (uj t a') d))) σ] (λz=>ae c1 (ae (iZ σ h e1) (ae h1 (ae ev z))))
theorem PG (h:sm t):bp aR (bJ G) (.ca (d+1) (.fn 526) [.str t]) σ (.ok (.v (.int (bR (aa t) 0)))) σ:=by
 obtain r1:(0:Int)<=((aa t).length:Int)/\((aa t).length:Int)<=16777216:=by unfold sm at h;lia
 refine aG (Ke (G:=G) (d:=d) (σ:=σ) h (aa t).length 0 none (by lia)) (AZ ?_) (AZ ?_)
 ·rintro hx U ev;exact aK 40 [.go,.o (.int (aa t).length),.j (.ok (.f (.ret (.int (bR (aa t) 0))) U)) σ] (λz=>ae (dW σ h) (ae r1 (ae ev z)))
 ·rintro hx a' ev;obtain hx:=hx;rw[hx];induction a' with
  |none=>exact aK 40 [.go,.o (.int (aa t).length),.j (.ok (.f .next (fm oO (uj t none) d))) σ,.o (.int (aa t).length)] (λz=>ae (dW σ h) (ae r1 (ae ev (ae (dW σ h) z))))
  |some x=>exact aK 40 [.go,.o (.int (aa t).length),.j (.ok (.f .next (fm oO (uj t (some x)) d))) σ,.o (.int (aa t).length)] (λz=>ae (dW σ h) (ae r1 (ae ev (ae (dW σ h) z))))
noncomputable def AB:List Nat:=[60,33,91,67,68,65,84,65,91]
noncomputable def AG:List Nat:=[60,33,68,79,67,84,89,80,69]
noncomputable def xF (t:List Nat):Option (ak×Option Nat) :=
 match dh qV t with
 |true=>some (sl "comment",eQ t [45,45,62] 4)
 |false=>match mb t qV with
  |true=>none
  |false=>match dh AB t with
   |true=>some (sl "cdata",eQ t [93,93,62] 9)
   |false=>match mb t AB with
    |true=>none
    |false=>match dh AG t with
     |true=>some (sl "doctype",zW t)
     |false=>match mb t AG with
      |true=>none
      |false=>match dh uZ t with
       |true=>some (sl "instruction",eQ t [63,62] 2)
       |false=>match dh [60,47] t with
        |true=>some (sl "end",eQ t [62] 2)
        |false=>match dh [60,33] t with
         |true=>some (sl "wrong",some t.length)
         |false=>some (sl "start",jt (t.drop 1) 1 none)
noncomputable def YG:Option (ak×Option Nat)->V
 |none=>.none
 |some (k,o)=>.tup [.str k,kH o]
theorem oi (h:(aa (sl w)).length<=4096):sm (sl w):=h
theorem QK (h:sm t):bp aR (bJ G) (.ca (d+3) (.fn 519) [.str t]) σ (.ok (.v (YG (xF (aa t))))) σ:=by
 have m1:=DL (G:=G) (d:=d+1) (w:=sl "<!--") (σ:=σ) h (oi (by decide));have m2:=DL (G:=G) (d:=d+1) (w:=sl "<![CDATA[") (σ:=σ) h (oi (by decide));obtain m3:=DL (G:=G) (d:=d+1) (w:=sl "<!DOCTYPE") (σ:=σ) h (oi (by decide));obtain l1:= dW (t:=sl "<!--") σ (oi (by decide));obtain l2:= dW (t:=sl "<![CDATA[") σ (oi (by decide));unfold xF;induction h1:dh qV (aa t) with
 |true =>
  obtain eb:=qi (G:=G) (d:=d+1) (s:=4) (t:=t) (w:=sl "-->") (σ:=σ) (oi (by decide));exact aK 60 [.go,.go,.b true,.b false,.o (.int 4),.o (kH (eQ (aa t) [45,45,62] 4))] (λz=>ae h1 (ae (aH false) (ae l1 (ae eb z))))
 |false =>
  dsimp only;induction g1:mb (aa t) qV with
  |true =>
   rw[show mb (aa t) (aa (sl "<!--"))=true from g1]at m1;exact aK 60 [.go,.go,.b false,.o (.bool true),.b true] (λz=>ae h1 (ae m1 (ae (aH true) z)))
  |false =>
   rw[show mb (aa t) (aa (sl "<!--"))=false from g1]at m1;dsimp only;induction h2:dh AB (aa t) with
   |true =>
    obtain eb:=qi (G:=G) (d:=d+1) (s:=9) (t:=t) (w:=sl "]]>") (σ:=σ) (oi (by decide));exact aK 60 [.go,.go,.b false,.o (.bool false),.b false,.go,.b true,.b false,.o (.int 9),.o (kH (eQ (aa t) [93,93,62] 9))] (λz=>ae h1 (ae m1 (ae (aH false) (ae h2 (ae (aH false) (ae l2 (ae eb z)))))))
   |false =>
    dsimp only;induction g2:mb (aa t) AB with
    |true =>
     rw[show mb (aa t) (aa (sl "<![CDATA["))=true from g2]at m2;exact aK 60 [.go,.go,.b false,.o (.bool false),.b false,.go,.b false,.o (.bool true),.b true] (λz=>ae h1 (ae m1 (ae (aH false) (ae h2 (ae m2 (ae (aH true) z))))))
    |false =>
     rw[show mb (aa t) (aa (sl "<![CDATA["))=false from g2]at m2;dsimp only;induction h3:dh AG (aa t) with
     |true =>
      have eb:=OW (G:=G) (d:=d) (σ:=σ) h;exact aK 60 [.go,.go,.b false,.o (.bool false),.b false,.go,.b false,.o (.bool false),.b false,.go,.b true,.b true,.o (kH (zW (aa t)))] (λz=>ae h1 (ae m1 (ae (aH false) (ae h2 (ae m2 (ae (aH false) (ae h3 (ae (aH true) (ae eb z)))))))))
     |false =>
      dsimp only;induction g3:mb (aa t) AG with
      |true =>
       rw[show mb (aa t) (aa (sl "<!DOCTYPE"))=true from g3]at m3;exact aK 60 [.go,.go,.b false,.o (.bool false),.b false,.go,.b false,.o (.bool false),.b false,.go,.b false,.o (.bool true),.b true] (λz=>ae h1 (ae m1 (ae (aH false) (ae h2 (ae m2 (ae (aH false) (ae h3 (ae m3 (ae (aH true) z)))))))))
      |false =>
       rw[show mb (aa t) (aa (sl "<!DOCTYPE"))=false from g3]at m3;dsimp only;induction h4:dh uZ (aa t) with
       |true =>
        obtain eb:=qi (G:=G) (d:=d+1) (s:=2) (t:=t) (w:=sl "?>") (σ:=σ) (oi (by decide));exact aK 60 [.go,.go,.b false,.o (.bool false),.b false,.go,.b false,.o (.bool false),.b false,.go,.b false,.o (.bool false),.b false,.go,.b true,.o (kH (eQ (aa t) [63,62] 2))] (λz=>ae h1 (ae m1 (ae (aH false) (ae h2 (ae m2 (ae (aH false) (ae h3 (ae m3 (ae (aH false) (ae h4 (ae eb z)))))))))))
       |false =>
        dsimp only;induction h5:dh [60,47] (aa t) with
        |true =>
         have eb:=qi (G:=G) (d:=d+1) (s:=2) (t:=t) (w:=sl ">") (σ:=σ) (oi (by decide));exact aK 60 [.go,.go,.b false,.o (.bool false),.b false,.go,.b false,.o (.bool false),.b false,.go,.b false,.o (.bool false),.b false,.go,.b false,.b true,.o (kH (eQ (aa t) [62] 2))] (λz=>ae h1 (ae m1 (ae (aH false) (ae h2 (ae m2 (ae (aH false) (ae h3 (ae m3 (ae (aH false) (ae h4 (ae h5 (ae eb z))))))))))))
        |false =>
         dsimp only;induction h6:dh [60,33] (aa t) with
         |true =>
          exact aK 60 [.go,.go,.b false,.o (.bool false),.b false,.go,.b false,.o (.bool false),.b false,.go,.b false,.o (.bool false),.b false,.go,.b false,.b false,.b true,.o (.int (aa t).length)] (λz=>ae h1 (ae m1 (ae (aH false) (ae h2 (ae m2 (ae (aH false) (ae h3 (ae m3 (ae (aH false) (ae h4 (ae h5 (ae h6 (ae (dW σ h) z)))))))))))))
         |false =>
          obtain eb:=P9 (G:=G) (d:=d+1) (σ:=σ) h;exact aK 60 [.go,.go,.b false,.o (.bool false),.b false,.go,.b false,.o (.bool false),.b false,.go,.b false,.o (.bool false),.b false,.go,.b false,.b false,.b false,.o (kH (jt ((aa t).drop 1) 1 none))] (λz=>ae h1 (ae m1 (ae (aH false) (ae h2 (ae m2 (ae (aH false) (ae h3 (ae m3 (ae (aH false) (ae h4 (ae h5 (ae h6 (ae eb z)))))))))))))
variable {G:Nat->Option (Nat->List V->Mo V)}
noncomputable def aC (ai:Bool)(e:Nat)(ps:List V)(c:Co)(T:ak)(pl:Int)(h:ak):Sg:=match ai with
 |false=>cN ps c T pl h
 |true=>aV e ps c T pl h
noncomputable def PR (ai:Bool):V:=match ai with
 |false=>.ref 23
 |true=>.ref 21
noncomputable def SR (ai:Bool):V:=match ai with
 |false=>.ref 15
 |true=>.ref 13
theorem RN (σ:Sg)(n:Nat)(h:sm t):js (.str t) none (some (.int n)) σ=some (.ok (.str (aw ((aa t).take n))),σ):=by
 obtain e: js (.str t) none (some (.int n))=(match fits (aa t).length with
  |false=>no
  |true=>rt (V.str (iz t 0 (bound n (aa t).length)))):=rfl
 rw[e,h.fits];obtain af: iz t 0 (bound n (aa t).length)=aw ((aa t).take n):=by
  skip;show(⟨⟨((aa t).take (min n (aa t).length)).drop 0⟩⟩:ak)=_;rw[rK]
  congr 2
  rw[Nat.min_def];split
  ·rfl
  ·rw[vk,u9 (by lia)]
 show some (Rs.ok (V.str (iz t 0 (bound n (aa t).length))),σ)=_;rw[af]
theorem Sh (σ:Sg)(n:Nat)(h:sm t):js (.str t) (some (.int n)) none σ=some (.ok (.str (aw ((aa t).drop n))),σ):=by
 obtain e: js (.str t) (some (.int n)) none=(match fits (aa t).length with
  |false=>no
  |true=>rt (V.str (iz t (bound n (aa t).length) (aa t).length))):=rfl
 rw[e,h.fits];obtain af: iz t (bound n (aa t).length) (aa t).length=aw ((aa t).drop n):=by
  skip;show(⟨⟨((aa t).take (aa t).length).drop (min n (aa t).length)⟩⟩:ak)=_
  congr 2
  rw[vk,Nat.min_def];split
  ·rfl
  ·rw[List.drop_length,List.drop_eq_nil_of_le (by lia)]
 show some (Rs.ok (V.str (iz t (bound n (aa t).length) (aa t).length)),σ)=_;rw[af]
section
variable {ai:Bool}{e:Nat}{ps:List V}{c:Co}{T h:ak}{pl:Int}{aq:Sg}
theorem KS {d n:Nat}(ht:sm T):bp aR (bJ G) (.ca (d+1) (.fn 575) [PR ai,.str k,.int n]) (aC ai e ps c T pl h++aq) (.ok (.v (.tup [.str k,.str (aw ((aa T).take n)),.int pl]))) (aC ai e ps c (aw ((aa T).drop n)) (pl+n) h++aq):=by
 obtain a1:= RN (aC ai e ps c T pl h++aq) n ht;obtain a2:= Sh (aC ai e ps c T pl h++aq) n ht;induction ai<;>exact aK 60 [.go,.o (.str (aw ((aa T).take n))),.o (.str (aw ((aa T).drop n)))] (λz=>ae a1 (ae a2 z))
noncomputable def cT (t:ak)(bH:Bool):Option (ak×Nat):=match aa t with
 |[]=>none
 |c::_=>match bx c 60 with
  |true=>(match xF (aa t) with
   |some (k,some n)=>some (k,n)
   |_=>(match bH with|true=>some (sl "wrong",(aa t).length)|false=>none))
  |false=>match bx c 38 with
   |true=>(match eQ (aa t) [59] 1 with
    |some n=>some (sl "reference",n)
    |none=>(match bH with|true=>some (sl "wrong",(aa t).length)|false=>none))
   |false=>(match bx (bR (aa t) 0) (aa t).length&&!bH with
    |true=>(match cE (dD t) (aa t).length with
     |true=>some (sl "text",(aa t).length-dD t)
     |false=>none)
    |false=>(match cE 0 (bR (aa t) 0) with
     |true=>some (sl "text",bR (aa t) 0)
     |false=>none))
noncomputable def lF (t:ak)(pl:Int):Option (ak×Nat)->V
 |none=>.none
 |some (k,n)=>.tup [.str k,.str (aw ((aa t).take n)),.int pl]
noncomputable def lC (ai:Bool)(e:Nat)(ps:List V)(c:Co)(T:ak)(pl:Int)(h:ak):Option (ak×Nat)->Sg
 |none=>aC ai e ps c T pl h
 |some (k,n)=>aC ai e ps c (aw ((aa T).drop n)) (pl+n) h
noncomputable def o4 (t:ak)(bH:Bool):Option (ak×Nat):=match bx (bR (aa t) 0) (aa t).length&&!bH with
 |true=>(match cE (dD t) (aa t).length with
  |true=>some (sl "text",(aa t).length-dD t)
  |false=>none)
 |false=>(match cE 0 (bR (aa t) 0) with
  |true=>some (sl "text",bR (aa t) 0)
  |false=>none)
theorem rT:cE a b=true↔a<b:=⟨λh=>dA h,λh=>lg h⟩
theorem zq (h:cE a b=false):¬a<b:=λq=>by rw[rT.mpr q]at h;exact tF h
theorem Ph (ht:sm T)(hh:dD T<=(aa T).length):bp aR (bJ G) (.ca (d+3) (.fn 589) [PR ai,.bool bH]) (aC ai e ps c T pl h++aq) (.ok (.v (lF T pl (o4 T bH)))) (lC ai e ps c T pl h (o4 T bH)++aq):=by
 obtain a1:=PG (G:=G) (d:=d+1) (σ:=aC ai e ps c T pl h++aq) ht;obtain a2:=dW (aC ai e ps c T pl h++aq) ht;obtain a3:=TX (G:=G) (d:=d+1) (t:=T) (σ:=aC ai e ps c T pl h++aq);obtain fL:∀n,bp aR (bJ G) (.ca (d+1+1) (.fn 575) [PR ai,.str (sl "text"),.int (n:Nat)]) (aC ai e ps c T pl h++aq) (.ok (.v (.tup [.str (sl "text"),.str (aw ((aa T).take n)),.int pl]))) (aC ai e ps c (aw ((aa T).drop n)) (pl+n) h++aq):=λn=>KS ht;unfold o4;induction bH with
 |true =>
  rw[show(bx (bR (aa T) 0) (aa T).length&&!true)=false from by simp];dsimp only;induction hb:bx (bR (aa T) 0) (aa T).length with
  |true =>
   have c1:decide ((bR (aa T) 0:Int)=((aa T).length:Int))=true:=decide_eq_true (by rw[eS hb]);induction h0:cE 0 (bR (aa T) 0) with
   |true =>
    have c2:decide ((bR (aa T) 0:Int)>0)=true:=decide_eq_true (by have af:=rT.mp h0;exact IA.mpr af);clear a3;induction ai with
    |false=>exact aK 60 [.go,.o (.int (bR (aa T) 0)),.o (.int (aa T).length),.b true,.b false,.b false,.b true,.a (.ok (.tup [.str (sl "text"),.str (aw ((aa T).take (bR (aa T) 0))),.int pl])) (aC false e ps c (aw ((aa T).drop (bR (aa T) 0))) (pl+(bR (aa T) 0)) h++aq)] (λz=>ae a1 (ae a2 (ae c1 (ae (aH false) (ae (aH false) (ae c2 (ae (fL (bR (aa T) 0)) z)))))))
    |true=>exact aK 60 [.go,.o (.int (bR (aa T) 0)),.o (.int (aa T).length),.b true,.b false,.b false,.b true,.a (.ok (.tup [.str (sl "text"),.str (aw ((aa T).take (bR (aa T) 0))),.int pl])) (aC true e ps c (aw ((aa T).drop (bR (aa T) 0))) (pl+(bR (aa T) 0)) h++aq)] (λz=>ae a1 (ae a2 (ae c1 (ae (aH false) (ae (aH false) (ae c2 (ae (fL (bR (aa T) 0)) z)))))))
   |false =>
    have c2:decide ((bR (aa T) 0:Int)>0)=false:=decide_eq_false (by have af:=zq h0;lia);clear a3 fL;induction ai<;>exact aK 60 [.go,.o (.int (bR (aa T) 0)),.o (.int (aa T).length),.b true,.b false,.b false,.b false] (λz=>ae a1 (ae a2 (ae c1 (ae (aH false) (ae (aH false) (ae c2 z))))))
  |false =>
   have c1:decide ((bR (aa T) 0:Int)=((aa T).length:Int))=false:=decide_eq_false (by have af:=vd hb;exact PN rfl rfl af);induction h0:cE 0 (bR (aa T) 0) with
   |true =>
    have c2:decide ((bR (aa T) 0:Int)>0)=true:=decide_eq_true (by have af:=rT.mp h0;exact IA.mpr af);clear a3;induction ai with
    |false=>exact aK 60 [.go,.o (.int (bR (aa T) 0)),.o (.int (aa T).length),.b false,.b false,.b true,.a (.ok (.tup [.str (sl "text"),.str (aw ((aa T).take (bR (aa T) 0))),.int pl])) (aC false e ps c (aw ((aa T).drop (bR (aa T) 0))) (pl+(bR (aa T) 0)) h++aq)] (λz=>ae a1 (ae a2 (ae c1 (ae (aH false) (ae c2 (ae (fL (bR (aa T) 0)) z))))))
    |true=>exact aK 60 [.go,.o (.int (bR (aa T) 0)),.o (.int (aa T).length),.b false,.b false,.b true,.a (.ok (.tup [.str (sl "text"),.str (aw ((aa T).take (bR (aa T) 0))),.int pl])) (aC true e ps c (aw ((aa T).drop (bR (aa T) 0))) (pl+(bR (aa T) 0)) h++aq)] (λz=>ae a1 (ae a2 (ae c1 (ae (aH false) (ae c2 (ae (fL (bR (aa T) 0)) z))))))
   |false =>
    have c2:decide ((bR (aa T) 0:Int)>0)=false:=decide_eq_false (by have af:=zq h0;lia);clear a3 fL;induction ai<;>exact aK 60 [.go,.o (.int (bR (aa T) 0)),.o (.int (aa T).length),.b false,.b false,.b false] (λz=>ae a1 (ae a2 (ae c1 (ae (aH false) (ae c2 z)))))
 |false =>
  induction hb:bx (bR (aa T) 0) (aa T).length with
  |true =>
   rw[show(true&&!false)=true from rfl];dsimp only;obtain YV:=eS hb;rw[YV]at a1;have c1:decide (((aa T).length:Int)=((aa T).length:Int))=true:=decide_eq_true rfl;obtain e1: (((aa T).length:Int)-(dD T:Int))=(((aa T).length-dD T:Nat):Int):=by exact eG (Int.ofNat_sub hh)
   induction h0:cE (dD T) (aa T).length with
   |true =>
    have c2:decide ((((aa T).length:Int)-(dD T:Int))>0)=true:=decide_eq_true (by have af:=rT.mp h0;lia);obtain cA:= fL ((aa T).length-dD T);obtain Ng: bp aR (bJ G) (.ca (d+1+1) (.fn 575) [PR ai,.str (sl "text"),.int (((aa T).length:Int)-(dD T:Int))]) (aC ai e ps c T pl h++aq) (.ok (.v (.tup [.str (sl "text"),.str (aw ((aa T).take ((aa T).length-dD T))),.int pl]))) (aC ai e ps c (aw ((aa T).drop ((aa T).length-dD T))) (pl+((aa T).length-dD T:Nat)) h++aq):=by rw[e1];exact cA
    clear cA fL;induction ai with
    |false=>exact aK 60 [.go,.o (.int (aa T).length),.o (.int (aa T).length),.b true,.b true,.b true,.o (.int (dD T)),.b true,.a (.ok (.tup [.str (sl "text"),.str (aw ((aa T).take ((aa T).length-dD T))),.int pl])) (aC false e ps c (aw ((aa T).drop ((aa T).length-dD T))) (pl+((aa T).length-dD T:Nat)) h++aq)] (λz=>ae a1 (ae a2 (ae c1 (ae (aH true) (ae (aH true) (ae a3 (ae c2 (ae Ng z))))))))
    |true=>exact aK 60 [.go,.o (.int (aa T).length),.o (.int (aa T).length),.b true,.b true,.b true,.o (.int (dD T)),.b true,.a (.ok (.tup [.str (sl "text"),.str (aw ((aa T).take ((aa T).length-dD T))),.int pl])) (aC true e ps c (aw ((aa T).drop ((aa T).length-dD T))) (pl+((aa T).length-dD T:Nat)) h++aq)] (λz=>ae a1 (ae a2 (ae c1 (ae (aH true) (ae (aH true) (ae a3 (ae c2 (ae Ng z))))))))
   |false =>
    have c2:decide ((((aa T).length:Int)-(dD T:Int))>0)=false:=decide_eq_false (by have af:=zq h0;lia);clear fL;induction ai<;>exact aK 60 [.go,.o (.int (aa T).length),.o (.int (aa T).length),.b true,.b true,.b true,.o (.int (dD T)),.b false] (λz=>ae a1 (ae a2 (ae c1 (ae (aH true) (ae (aH true) (ae a3 (ae c2 z)))))))
  |false =>
   rw[show(false&&!false)=false from rfl];dsimp only;have c1:decide ((bR (aa T) 0:Int)=((aa T).length:Int))=false:=decide_eq_false (by have af:=vd hb;exact PN rfl rfl af);induction h0:cE 0 (bR (aa T) 0) with
   |true =>
    have c2:decide ((bR (aa T) 0:Int)>0)=true:=decide_eq_true (by have af:=rT.mp h0;exact IA.mpr af);clear a3;induction ai with
    |false=>exact aK 60 [.go,.o (.int (bR (aa T) 0)),.o (.int (aa T).length),.b false,.b false,.b true,.a (.ok (.tup [.str (sl "text"),.str (aw ((aa T).take (bR (aa T) 0))),.int pl])) (aC false e ps c (aw ((aa T).drop (bR (aa T) 0))) (pl+(bR (aa T) 0)) h++aq)] (λz=>ae a1 (ae a2 (ae c1 (ae (aH false) (ae c2 (ae (fL (bR (aa T) 0)) z))))))
    |true=>exact aK 60 [.go,.o (.int (bR (aa T) 0)),.o (.int (aa T).length),.b false,.b false,.b true,.a (.ok (.tup [.str (sl "text"),.str (aw ((aa T).take (bR (aa T) 0))),.int pl])) (aC true e ps c (aw ((aa T).drop (bR (aa T) 0))) (pl+(bR (aa T) 0)) h++aq)] (λz=>ae a1 (ae a2 (ae c1 (ae (aH false) (ae c2 (ae (fL (bR (aa T) 0)) z))))))
   |false =>
    have c2:decide ((bR (aa T) 0:Int)>0)=false:=decide_eq_false (by have af:=zq h0;lia);clear a3 fL;induction ai<;>exact aK 60 [.go,.o (.int (bR (aa T) 0)),.o (.int (aa T).length),.b false,.b false,.b false] (λz=>ae a1 (ae a2 (ae c1 (ae (aH false) (ae c2 z)))))
end
variable {G:Nat->Option (Nat->List V->Mo V)}
section
variable {ai:Bool}{e:Nat}{ps:List V}{c:Co}{T h:ak}{pl:Int}{aq:Sg}
theorem J5 {a b:List Nat}(h:dh a b=true):a.length<=b.length:=by
 obtain af:= rx.mp h;exact af.length_le
theorem S1 (t:ak):dD t<=(aa t).length:=by
 unfold dD;induction h1:jH t (aw [93,93]) with
 |true =>
  obtain af:= J5 (show dh _ _=true from h1);simp at af;exact af
 |false =>
  skip;induction h2:jH t (aw [93]) with
  |true =>
   obtain af:= J5 (show dh _ _=true from h2);simp at af;exact af
  |false=>exact fP _
theorem PZ (hl:aa t=x::r)(h1:bx x 60=false)(h2:bx x 38=false):cT t bH=o4 t bH:=by
 unfold cT o4;rw[hl];dsimp only;rw[h1];skip;rw[h2]
noncomputable def zY (t:ak)(bH:Bool)(o:Option (ak×Option Nat)):Option (ak×Nat):=match o with
 |some (k,some n)=>some (k,n)
 |_=>(match bH with|true=>some (sl "wrong",(aa t).length)|false=>none)
theorem R0 (hl:aa t=x::r)(h1:bx x 60=true):cT t bH=zY t bH (xF (aa t)):=by
 unfold cT zY;rw[hl];dsimp only;rw[h1]
 try rfl
theorem QB (hl:aa t=x::r)(h1:bx x 60=false)(h2:bx x 38=true):cT t bH=zY t bH (some (sl "reference",eQ (aa t) [59] 1)):=by
 unfold cT zY;rw[hl];dsimp only;rw[h1];skip;rw[h2];skip;induction eQ (x::r) [59] 1<;>rfl
theorem Kn (ht:sm T):bp aR (bJ G) (.ca (d+4) (.fn 582) [PR ai,.bool bH]) (aC ai e ps c T pl h++aq) (.ok (.v (lF T pl (cT T bH)))) (lC ai e ps c T pl h (cT T bH)++aq):=by
 have fL:∀(k:ak) (n:Nat),bp aR (bJ G) (.ca (d+2+1) (.fn 575) [PR ai,.str k,.int (n:Nat)]) (aC ai e ps c T pl h++aq) (.ok (.v (.tup [.str k,.str (aw ((aa T).take n)),.int pl]))) (aC ai e ps c (aw ((aa T).drop n)) (pl+n) h++aq):=λk n=>KS ht;obtain a2:=dW (aC ai e ps c T pl h++aq) ht;induction hT:aa T using aQ with
 |nil =>
  obtain e0: cT T bH=none:=by unfold cT;rw[hT]
  obtain c1:bg T (aw [])=true:=by unfold bg;rw[show T.cps.toList=[] from hT];rfl
  rw[e0];clear a2 fL;induction ai<;>exact aK 60 [.go,.b true] (λz=>ae c1 z)
 |cons x r =>
  have c1:bg T (aw [])=false:=by unfold bg;rw[show T.cps.toList=x::r from hT];rfl
  have i0:=iZ (t:=T) (aC ai e ps c T pl h++aq) (i:=0) (c:=x) ht (by rw[hT];rfl);induction h1:bx x 60 with
  |true =>
   have s1:bg (ch x) (ch 60)=true:=by rw[jK];exact h1
   obtain a1:=QK (G:=G) (d:=d) (σ:=aC ai e ps c T pl h++aq) ht;rw[R0 hT h1];induction hm:xF (aa T) with
   |none =>
    rw[hm]at a1;induction bH with
    |true =>
     induction ai with
     |false=>exact aK 60 [.go,.b false,.o (.str (ch x)),.b true,.o .none,.b false,.b false,.b true,.o (.int (aa T).length),.a (.ok (.tup [.str (sl "wrong"),.str (aw ((aa T).take (aa T).length)),.int pl])) (aC false e ps c (aw ((aa T).drop (aa T).length)) (pl+(aa T).length) h++aq)] (λz=>ae c1 (ae i0 (ae s1 (ae a1 (ae (aH false) (ae (aH false) (ae (aH true) (ae a2 (ae (fL (sl "wrong") (aa T).length) z)))))))))
     |true=>exact aK 60 [.go,.b false,.o (.str (ch x)),.b true,.o .none,.b false,.b false,.b true,.o (.int (aa T).length),.a (.ok (.tup [.str (sl "wrong"),.str (aw ((aa T).take (aa T).length)),.int pl])) (aC true e ps c (aw ((aa T).drop (aa T).length)) (pl+(aa T).length) h++aq)] (λz=>ae c1 (ae i0 (ae s1 (ae a1 (ae (aH false) (ae (aH false) (ae (aH true) (ae a2 (ae (fL (sl "wrong") (aa T).length) z)))))))))
    |false =>
     induction ai<;>exact aK 60 [.go,.b false,.o (.str (ch x)),.b true,.o .none,.b false,.b false,.b false] (λz=>ae c1 (ae i0 (ae s1 (ae a1 (ae (aH false) (ae (aH false) (ae (aH false) z)))))))
   |some q =>
    obtain⟨k,o⟩:=q;rw[hm]at a1;induction o with
    |none =>
     induction bH with
     |true =>
      induction ai with
      |false=>exact aK 60 [.go,.b false,.o (.str (ch x)),.b true,.o (.tup [.str k,.none]),.b true,.b false,.b false,.b true,.o (.int (aa T).length),.a (.ok (.tup [.str (sl "wrong"),.str (aw ((aa T).take (aa T).length)),.int pl])) (aC false e ps c (aw ((aa T).drop (aa T).length)) (pl+(aa T).length) h++aq)] (λz=>ae c1 (ae i0 (ae s1 (ae a1 (ae (aH true) (ae (aH false) (ae (aH false) (ae (aH true) (ae a2 (ae (fL (sl "wrong") (aa T).length) z))))))))))
      |true=>exact aK 60 [.go,.b false,.o (.str (ch x)),.b true,.o (.tup [.str k,.none]),.b true,.b false,.b false,.b true,.o (.int (aa T).length),.a (.ok (.tup [.str (sl "wrong"),.str (aw ((aa T).take (aa T).length)),.int pl])) (aC true e ps c (aw ((aa T).drop (aa T).length)) (pl+(aa T).length) h++aq)] (λz=>ae c1 (ae i0 (ae s1 (ae a1 (ae (aH true) (ae (aH false) (ae (aH false) (ae (aH true) (ae a2 (ae (fL (sl "wrong") (aa T).length) z))))))))))
     |false =>
      induction ai<;>exact aK 60 [.go,.b false,.o (.str (ch x)),.b true,.o (.tup [.str k,.none]),.b true,.b false,.b false,.b false] (λz=>ae c1 (ae i0 (ae s1 (ae a1 (ae (aH true) (ae (aH false) (ae (aH false) (ae (aH false) z))))))))
    |some n =>
     clear a2;induction ai with
     |false=>exact aK 60 [.go,.b false,.o (.str (ch x)),.b true,.o (.tup [.str k,.int n]),.b true,.b true,.b true,.a (.ok (.tup [.str k,.str (aw ((aa T).take n)),.int pl])) (aC false e ps c (aw ((aa T).drop n)) (pl+n) h++aq)] (λz=>ae c1 (ae i0 (ae s1 (ae a1 (ae (aH true) (ae (aH true) (ae (aH true) (ae (fL k n) z))))))))
     |true=>exact aK 60 [.go,.b false,.o (.str (ch x)),.b true,.o (.tup [.str k,.int n]),.b true,.b true,.b true,.a (.ok (.tup [.str k,.str (aw ((aa T).take n)),.int pl])) (aC true e ps c (aw ((aa T).drop n)) (pl+n) h++aq)] (λz=>ae c1 (ae i0 (ae s1 (ae a1 (ae (aH true) (ae (aH true) (ae (aH true) (ae (fL k n) z))))))))
  |false =>
   have s1:bg (ch x) (ch 60)=false:=by rw[jK];exact h1
   induction h2:bx x 38 with
   |true =>
    obtain s2:bg (ch x) (ch 38)=true:=by rw[jK];exact h2
    obtain a1:=qi (G:=G) (d:=d+2) (s:=1) (t:=T) (w:=sl ";") (σ:=aC ai e ps c T pl h++aq) (oi (by decide));rw[QB hT h1 h2];induction hm:eQ (aa T) [59] 1 with
    |none =>
     rw[show eQ (aa T) (aa (sl ";")) 1=none from hm]at a1;induction bH with
     |true =>
      induction ai with
      |false=>exact aK 60 [.go,.b false,.o (.str (ch x)),.b false,.o (.str (ch x)),.b true,.o .none,.b true,.b false,.b false,.b true,.o (.int (aa T).length),.a (.ok (.tup [.str (sl "wrong"),.str (aw ((aa T).take (aa T).length)),.int pl])) (aC false e ps c (aw ((aa T).drop (aa T).length)) (pl+(aa T).length) h++aq)] (λz=>ae c1 (ae i0 (ae s1 (ae i0 (ae s2 (ae a1 (ae (aH true) (ae (aH false) (ae (aH false) (ae (aH true) (ae a2 (ae (fL (sl "wrong") (aa T).length) z))))))))))))
      |true=>exact aK 60 [.go,.b false,.o (.str (ch x)),.b false,.o (.str (ch x)),.b true,.o .none,.b true,.b false,.b false,.b true,.o (.int (aa T).length),.a (.ok (.tup [.str (sl "wrong"),.str (aw ((aa T).take (aa T).length)),.int pl])) (aC true e ps c (aw ((aa T).drop (aa T).length)) (pl+(aa T).length) h++aq)] (λz=>ae c1 (ae i0 (ae s1 (ae i0 (ae s2 (ae a1 (ae (aH true) (ae (aH false) (ae (aH false) (ae (aH true) (ae a2 (ae (fL (sl "wrong") (aa T).length) z))))))))))))
     |false =>
      induction ai<;>exact aK 60 [.go,.b false,.o (.str (ch x)),.b false,.o (.str (ch x)),.b true,.o .none,.b true,.b false,.b false,.b false] (λz=>ae c1 (ae i0 (ae s1 (ae i0 (ae s2 (ae a1 (ae (aH true) (ae (aH false) (ae (aH false) (ae (aH false) z))))))))))
    |some n =>
     rw[show eQ (aa T) (aa (sl ";")) 1=some n from hm]at a1;clear a2;induction ai with
     |false=>exact aK 60 [.go,.b false,.o (.str (ch x)),.b false,.o (.str (ch x)),.b true,.o (.int n),.b true,.b true,.b true,.a (.ok (.tup [.str (sl "reference"),.str (aw ((aa T).take n)),.int pl])) (aC false e ps c (aw ((aa T).drop n)) (pl+n) h++aq)] (λz=>ae c1 (ae i0 (ae s1 (ae i0 (ae s2 (ae a1 (ae (aH true) (ae (aH true) (ae (aH true) (ae (fL (sl "reference") n) z))))))))))
     |true=>exact aK 60 [.go,.b false,.o (.str (ch x)),.b false,.o (.str (ch x)),.b true,.o (.int n),.b true,.b true,.b true,.a (.ok (.tup [.str (sl "reference"),.str (aw ((aa T).take n)),.int pl])) (aC true e ps c (aw ((aa T).drop n)) (pl+n) h++aq)] (λz=>ae c1 (ae i0 (ae s1 (ae i0 (ae s2 (ae a1 (ae (aH true) (ae (aH true) (ae (aH true) (ae (fL (sl "reference") n) z))))))))))
   |false =>
    obtain s2:bg (ch x) (ch 38)=false:=by rw[jK];exact h2
    rw[PZ hT h1 h2];have a1:=Ph (G:=G) (ai:=ai) (e:=e) (ps:=ps) (c:=c) (h:=h) (pl:=pl) (aq:=aq) (d:=d) (bH:=bH) ht (S1 T);induction ai with
    |false=>exact aK 60 [.go,.b false,.o (.str (ch x)),.b false,.o (.str (ch x)),.b false,.a (.ok (lF T pl (o4 T bH))) (lC false e ps c T pl h (o4 T bH)++aq)] (λz=>ae c1 (ae i0 (ae s1 (ae i0 (ae s2 (ae a1 z))))))
    |true=>exact aK 60 [.go,.b false,.o (.str (ch x)),.b false,.o (.str (ch x)),.b false,.a (.ok (lF T pl (o4 T bH))) (lC true e ps c T pl h (o4 T bH)++aq)] (λz=>ae c1 (ae i0 (ae s1 (ae i0 (ae s2 (ae a1 z))))))
end
open PySem.StrLaws PySem.Builtin.Str PySem.Builtin
variable {G:Nat->Option (Nat->List V->Mo V)}
noncomputable def nl:List Nat->List Nat
 |[]=>[]
 |c::r=>match bx c 13 with
  |true=>(match r with
   |d::r'=>(match bx d 10 with
    |true=>10::nl r'
    |false=>10::nl (d::r'))
   |[]=>[10])
  |false=>c::nl r
noncomputable def gE (l:List Nat):List Nat:=l.map λc=>match bx c 13 with|true=>10|false=>c
theorem vQ (r:List Nat):nl (13::10::r)=10::nl r:=rfl
theorem sy (r:List Nat)(h:d≠10):nl (13::d::r)=10::nl (d::r):=by
 obtain af: bx d 10=false:=by
  induction q:bx d 10 with
  |false=>rfl
  |true=>exact absurd (eS q) h
 show(match bx d 10 with|true=>10::nl r|false=>10::nl (d::r))=_;rw[af]
theorem vN:nl [13]=[10]:=rfl
theorem qI (r:List Nat)(h:c≠13):nl (c::r)=c::nl r:=by
 obtain af: bx c 13=false:=by
  induction q:bx c 13 with
  |false=>rfl
  |true=>exact absurd (eS q) h
 induction r using aQ with
 |nil =>
  obtain e:nl [c]=(match bx c 13 with|true=>[10]|false=>[c]):=by kernel_rfl
  rw[e,af];rfl
 |cons d r =>
  obtain e:nl (c::d::r)=(match bx c 13 with
   |true=>(match bx d 10 with
    |true=>10::nl r
    |false=>10::nl (d::r))
   |false=>c::nl (d::r)):=by kernel_rfl
  rw[e,af]
theorem DJ (r:List Nat)(h:c≠13):gE (c::r)=c::gE r:=by
 obtain af: bx c 13=false:=by
  induction q:bx c 13 with
  |false=>rfl
  |true=>exact absurd (eS q) h
 show(match bx c 13 with|true=>10|false=>c)::gE r=_;rw[af]
theorem K4 (r:List Nat):gE (13::r)=10::gE r:=rfl
theorem K3:∀(u v:List Nat),(∀k,k<u.length->¬((u++13::10::v).drop k).take 2=[13,10])->nl (u++13::10::v)=gE u++10::nl v
 |[],v,_=>vQ v
 |c::u,v,h=>by
  have ih:=K3 u v λk hk=>h (k+1) (by simp;exact hk);obtain h0:= h 0 (by simp);by_cases hc:c=13
  ·clear h;subst hc;rw[K4];show nl (13::(u++13::10::v))=10::(gE u++10::nl v);rw[<- ih];induction hu:u++13::10::v using aQ with
   |nil=>simp at hu
   |cons d w =>
    refine sy w λz=>h0 ?_;subst z;show((13::(u++13::10::v)).drop 0).take 2=_;rw[hu];rfl
  ·rw[DJ _ hc];show nl (c::(u++13::10::v))=c::(gE u++10::nl v);rw[qI _ hc,ih]
theorem C5:∀(u:List Nat),(∀k,k<u.length->¬(u.drop k).take 2=[13,10])->nl u=gE u
 |[],_=>rfl
 |c::u,h=>by
  have ih:=C5 u λk hk=>h (k+1) (by simp;exact hk);obtain h0:= h 0 (by simp);by_cases hc:c=13
  ·clear h;subst hc;rw[K4,<- ih];induction u using aQ with
   |nil=>exact vN
   |cons d w =>
    refine sy w λz=>h0 ?_;(refine ir z ?_);rfl
  ·rw[DJ _ hc,qI _ hc,ih]
theorem yS (a b:List Nat):gE (a++b)=gE a++gE b:=vz
noncomputable def gU:ak:=aw [13,10]
theorem B6 (x a b:List Nat)(r:List (List Nat)):eI x (a::b::r)=a++x++eI x (b::r):=rfl
theorem Jg (t:ak):∀(Ml:List Nat) (a f:Nat),a<=t.length->ChainG t gU t.length a Ml f->(∀k,f<=k->¬At t gU t.length k) ->
 gE (eI [10] ((partsFrom t 2 a Ml).map λ(s:ak)=>s.cps.toList))=nl ((aa t).drop a)
 |[],a,f,ha,h,hn=>by
  have e:=h;subst e;obtain hl: (aa t).length=t.length:=by simp[l0]
  obtain hs:t.cps.size=t.length:=rfl;show gE (strSub t f t.length).cps.toList=_;rw[strSub_toList,u9 (by simp;lia)];refine(C5 _ λk hk he=>hn (f+k) ((dK f k)) ?_).symm;rw[tJ]at he;refine⟨?_,?_⟩
  ·obtain af:= congrArg ew he;simp at af;show f+k+2<=t.length;lia
  ·rw[subAt_eq];show(((aa t).drop (f+k)).take 2==[13,10])=true;rw[he];rfl
 |c::r,a,f,ha,h,hn=>by
  refine nA h ?_;rintro h1 h2 h3 h4;obtain hl: (aa t).length=t.length:=by simp[l0]
  obtain hc:c+2<=t.length:=h2.1;obtain ih:= Jg t r (c+2) f hc h4 hn;refine fE (partsFrom_ne t 2 (c+2) r) ?_;rintro p q e;show gE (eI [10] ((strSub t a c).cps.toList::(partsFrom t 2 (c+2) r).map λ(s:ak)=>s.cps.toList))=_;rw[e]at ih ⊢;rw[nQ]at ih ⊢;rw[B6,yS,yS,ih];obtain As: ((aa t).drop c).take 2=[13,10]:=by
   obtain af:= h2.2;rw[subAt_eq]at af;exact eq_of_beq af
  obtain hd: (aa t).drop c=13::10::(aa t).drop (c+2):=by
   obtain af:= tC 2 ((aa t).drop c);rw[As,tJ]at af;exact af.symm
  have hu:(aa t).drop a=((aa t).drop a).take (c-a)++13::10::(aa t).drop (c+2):=by
   rw[<- hd];obtain af:= tC (c-a) ((aa t).drop a);rw[tJ,show a+(c-a)=c by exact pW h1]at af;exact af.symm
  rw[strSub_toList];rw[show t.cps.toList=aa t from rfl];rw[hu,K3]
  ·rw[<- hu];simp[gE]
  ·intro k hk he;rw[<- hu,tJ]at he;obtain lM:k<c-a:=by simp at hk;exact bC hk (Iw (c-a) (t.cps.size-a))
   refine h3 (a+k) ((dK a k)) (Nat.add_lt_of_lt_sub' lM) ⟨by show a+k+2<=t.length;lia,?_⟩;rw[subAt_eq];show(((aa t).drop (a+k)).take 2==[13,10])=true;rw[he];rfl
set_option tactic.hygienic true in
theorem Rf (t:ak):gE (eI [10] ((fa t gU).map λ(s:ak)=>s.cps.toList))=nl (aa t):=by
 refine aO (occ_tight t gU (by decide)) ?_;rintro f hG hn;obtain hl: (aa t).length=t.length:=by simp[l0]
 obtain hs:t.cps.size=t.length:=rfl;have whole:(∀k,¬At t gU t.length k)->gE (aa t)=nl (aa t):=λh=>(C5 _ λk hk he=>h k ⟨by
  obtain af:= congrArg ew he;simp at af;show k+2<=t.length;lia,by
  rw[subAt_eq];rw[he];rfl⟩).symm
 unfold fa;split
 ·rename_i hc;refine whole λk hk=>?_;rw[jk,decide_eq_true_eq,decide_eq_true_eq]at hc;refine aG hc ?_ ?_
  ·rintro h;obtain h1:= hk.1;lia
  ·rintro h;obtain af: Ba gU<=Ba t:=by
    obtain e: Ba gU=1:=by decide +kernel
    rw[e];unfold Ba;split
    ·exact bc _
    ·split<;>decide
   lia
 ·split
  ·rename_i he;obtain e0:=xY.mp he;rw[e0]at hG;have ef:=hG;clear hG;subst ef;exact whole λk=>hn k (fP _)
  ·rw[partsBetween_eq];exact Jg t _ 0 f (fP _) hG hn
theorem Cx:∀{l},13∉l->gE l=l
 |[],_=>rfl
 |c::r,h=>by
  rw[DJ _ λz=>h (z▸.head _),Cx λm=>h (.tail _ m)]
theorem Ip:∀(ps:List (List Nat)),(∀p∈ps,13∉p)->eI [10] ps=gE (eI [13] ps)
 |[],_=>rfl
 |[a],h=>(Cx (h a (.head _))).symm
 |a::b::r,h=>by
  rw[B6,B6,yS,yS,Ip (b::r) λp hp=>h p (.tail _ hp),Cx (h a (.head _))];rfl
theorem I9 (y:ak):∀(ps:List ak),(Str.join y ps).cps.toList=eI (aa y) (ps.map λ(s:ak)=>s.cps.toList)
 |[]=>rfl
 |[a]=>rfl
 |a::b::r=>by
  obtain ih:= I9 y (b::r);show(a++y++Str.join y (b::r)).cps.toList=_;rw[IF,IF,Bd,Bd,ih];rfl
theorem QE (x:ak):eI [10] ((fa x (ch 13)).map λ(s:ak)=>s.cps.toList)=gE (aa x):=by
 rw[Ip]
 ·obtain af:= join_split x (ch 13);obtain af:= congrArg (λs:ak=>s.cps.toList) af;rw[I9]at af;rw[show eI [13] ((fa x (ch 13)).map λ(s:ak)=>s.cps.toList)=aa x from af]
 ·intro p hp;refine aO (JB.mp hp) ?_;clear hp;rintro s hs rfl;exact split_free x 13 s hs
theorem TU (l:List Nat):(gE l).length=l.length:=gK ..
theorem nW:∀(n:Nat) (l:List Nat),l.length<=n->(nl l).length<=l.length
 | 0,l,h=>by
  induction l using aQ with
  |nil=>exact bc _
  |cons _ _=>simp at h
 |n+1,[],h=>bc _
 |n+1,c::r,h=>by
  simp at h;by_cases hc:c=13
  ·subst hc;induction r using aQ with
   |nil=>rw[vN];exact bc _
   |cons d r =>
    by_cases hd:d=10
    ·(refine il hd ?_);rw[vQ];obtain af:= nW n r (by simp at h;exact bC (iF r.length) h);simp;exact bC af (dK r.length 1)
    ·rw[sy _ hd];obtain af:= nW n (d::r) h;simp at af ⊢;exact af
  ·rw[qI _ hc];obtain af:= nW n r h;simp;exact af
theorem Il (k:Nat):∀(ps:List ak) (n:Nat),ps.foldl (λn (s:ak)=>n+s.length+k) n=n+(ps.map λ(s:ak)=>s.length+k).sum
 |[],n=>by simp
 |a::r,n=>by
  rw[List.foldl_cons,Il k r];simp;lia
theorem I7:∀(ps:List ak),ps≠[]->(ps.map λ(s:ak)=>s.length+1).sum=(eI [10] (ps.map λ(s:ak)=>s.cps.toList)).length+1
 |[],h=>absurd rfl h
 |[a],_=>rfl
 |a::b::r,_=>by
  obtain ih:= I7 (b::r) (λh=>nomatch h);rw[nQ,List.sum_cons,ih];show _=(a.cps.toList++[10]++eI [10] ((b::r).map λ(s:ak)=>s.cps.toList)).length+1;simp[l0];exact Bn a.cps.size 1 ((eI [10] (b.cps.toList::List.map (λs=>s.cps.toList) r)).length+1)
theorem Ju (x y:ak):fa x y≠[]:=by
 unfold fa;split
 ·simp
 ·split
  ·simp
  ·rw[partsBetween_eq];refine fE (partsFrom_ne x y.length 0 (occurrences x y 0 x.length (x.length+1))) ?_;rintro p r e;rw[e];simp
theorem Jd:∀(ps:List ak),mT (ps.map V.str)=some ps
 |[]=>rfl
 |a::r=>by
  show(mT (r.map V.str)).map (a::·)=_;rw[Jd r];rfl
theorem IX (σ:Sg)(hy:aa y=c::r)(h:sm t):cw .split [.str t,.str y] σ=some (.ok (.ref σ.length),σ++[.list ((fa t y).map V.str)]):=by
 show(match y.cps.toList with
  |[]=>no
  |_::_=>(match fits ((aa t).length+2) with
   |true=>bd (al (.list ((fa t y).map V.str))) λk=>rt (V.ref k)
   |false=>no)) σ=_
 rw[show y.cps.toList=c::r from hy];skip;rw[iI (by unfold sm at h;lia)];rfl
theorem JL (h:ay σ i=some (.list (ps.map V.str)))(hn:ps≠[])(hf:(eI [10] (ps.map λ(s:ak)=>s.cps.toList)).length<=5000):cw .join [.str (ch 10),.ref i] σ=some (.ok (.str (aw (eI [10] (ps.map λ(s:ak)=>s.cps.toList)))),σ):=by
 obtain e: cw .join [.str (ch 10),.ref i]=bd (gt (listAt i)) λl=>bd (aX (mT l)) λ(ss:List ak) =>
  match fits (ss.foldl (λn (s:ak)=>n+s.length+(ch 10).length) 0) with
  |true=>rt (V.str ⟨(eI [10] (ss.map λ(s:ak)=>s.cps.toList)).toArray⟩)
  |false=>no:=rfl
 rw[e];obtain h1: listAt i σ=some (ps.map V.str):=by unfold listAt;rw[h]
 unfold bd gt;rw[h1];dsimp only;rw[Jd];obtain af: fits (ps.foldl (λn (s:ak)=>n+s.length+(ch 10).length) 0)=true:=by
  refine iI ?_;rw[show(ch 10).length=1 from rfl,Il,I7 ps hn];lia
 unfold aX;skip;show(match fits (ps.foldl (λn (s:ak)=>n+s.length+(ch 10).length) 0) with
  |true=>rt (V.str ⟨(eI [10] (ps.map λ(s:ak)=>s.cps.toList)).toArray⟩)
  |false=>no) σ=_
 rw[af];rfl
noncomputable def gH (t:ak):List V:=(fa t gU).map V.str
noncomputable def iB (t:ak):List V:=(fa (aw (eI [10] ((fa t gU).map λ(s:ak)=>s.cps.toList))) (ch 13)).map V.str
theorem cV (l:List α)(a:α):ay (l++[a]) l.length=some a:=by
 have af:=eE (l:=l) (r:=[a]) (i:=0);exact af
theorem Cf (h:sm t):bp aR (bJ G) (.ca (d+1) (.fn 105) [.str t]) σ (.ok (.v (.str (aw (nl (aa t)))))) (σ++[.list (gH t)]++[.list (iB t)]):=by
 obtain e1:=Rf t;obtain l1:(eI [10] ((fa t gU).map λ(s:ak)=>s.cps.toList)).length<=4096:=by
  rw[<- TU,e1];obtain af:= nW _ (aa t) (bc _);skip;exact bC af h
 obtain e2:= QE (aw (eI [10] ((fa t gU).map λ(s:ak)=>s.cps.toList)));obtain e3:eI [10] ((fa (aw (eI [10] ((fa t gU).map λ(s:ak)=>s.cps.toList))) (ch 13)).map λ(s:ak)=>s.cps.toList)=nl (aa t):=by rw[e2];exact e1
 obtain a1:=IX (y:=gU) σ rfl h;obtain a2:= JL (ps:=fa t gU) (cV σ (.list ((fa t gU).map V.str))) (Ju _ _) (bC l1 (cJ 4096 904));obtain a3:= IX (t:=aw (eI [10] ((fa t gU).map λ(s:ak)=>s.cps.toList))) (y:=ch 13) (σ++[.list ((fa t gU).map V.str)]) rfl l1;obtain a4:= JL (ps:=fa (aw (eI [10] ((fa t gU).map λ(s:ak)=>s.cps.toList))) (ch 13)) (cV (σ++[.list ((fa t gU).map V.str)]) (.list ((fa (aw (eI [10] ((fa t gU).map λ(s:ak)=>s.cps.toList))) (ch 13)).map V.str))) (Ju _ _) (by
  rw[e3];obtain af:= nW _ (aa t) (bc _);unfold sm at h;lia)
 rw[e3]at a4;exact aK 60 [.go,.a (.ok (.ref σ.length)) (σ++[.list (gH t)]),.o (.str (aw (eI [10] ((fa t gU).map λ(s:ak)=>s.cps.toList)))),.a (.ok (.ref (σ++[O.list (gH t)]).length)) (σ++[.list (gH t)]++[.list (iB t)]),.o (.str (aw (nl (aa t))))] (λz=>ae a1 (ae a2 (ae a3 (ae a4 z))))
end Zq
namespace Zq
open PySem
section
variable {ps:List V}{c c':Co}{T h:ak}{pl:Int}{k w:ak}{p:Int}{e:Nat}
theorem jF:(aV e ps c T pl h).length=22:=rfl
theorem CA:∀{l} {i} {a},ay l i=some a->ay (l.map f) i=some (f a)
 |_::_,0,_,h=>by(refine aT h ?_;clear h);rfl
 |_::l,i+1,_,h=>CA (l:=l) (i:=i) h
theorem Ny {l m:List O}(h:a=b)(k:l=m):a::l=b::m:=by rw[h,k]
theorem cga {l m:List O}(h:a=b)(k:l=m):a++l=b++m:=by rw[h,k]
theorem yT (bS:dj ps=true):eP (cY 22) (aV 0 ps c T pl h)=true:=by
 obtain h1: dq (cY 22) ps=true:=gP bS;obtain h2: dq (cY 22) c.jh=true:=gP (tV c);obtain h3: dq (cY 22) c.names=true:=gP (yr c);obtain h4:nG (cY 22) (match c.hd with|true=>[(sl "e",.ref 0)]|false=>[])=true:=by induction c.hd<;>rfl
 obtain e:eP (cY 22) (aV 0 ps c T pl h)=(dq (cY 22) ps&&(dq (cY 22) c.jh&&(nG (cY 22) (match c.hd with|true=>[(sl "e",.ref 0)]|false=>[])&&(dq (cY 22) c.names&&true)))):=rfl;rw[e,h1,h2,h4,h3];rfl
theorem yi {al:Nat->Bool}:∀{n} {l},eP al l=true->eP al (l.take n)=true/\eP al (l.drop n)=true
 | 0,_,h=>⟨rfl,h⟩
 |_+1,[],_=>⟨rfl,rfl⟩
 |n+1,o::l,h=>by
  obtain h:(ji al o&&eP al l)=true:=h;refine oA (jP.mp h) ?_;clear h;rintro h1 h2;exact⟨jP.mpr ⟨h1,(yi h2).1⟩,(yi h2).2⟩
theorem B2 {al:Nat->Bool}(hg:∀k,al k=true->g k=k):∀{l},eP al l=true->l.map (iw g)=l
 |[],_=>rfl
 |o::l,h=>by
  obtain h:(ji al o&&eP al l)=true:=h;refine oA (jP.mp h) ?_;clear h;rintro h1 h2;exact Ny (nU hg h1) (B2 hg h2)
theorem QM (bS:dj ps=true):eP (cY 24) (aV 23 ps ⟨st,true,sz⟩ T pl h)=true:=by
 obtain h1: dq (cY 24) ps=true:=gP bS;obtain h3: dq (cY 24) (Co.names ⟨st,true,sz⟩)=true:=gP (yr _);obtain e:eP (cY 24) (aV 23 ps ⟨st,true,sz⟩ T pl h)=(dq (cY 24) ps&&(dq (cY 24) (Co.names ⟨st,true,sz⟩)&&true)):=rfl;rw[e,h1,h3];rfl
theorem IZ (hg:∀i,i<22->g i=i)(hx:g x=y)(bS:dj ps=true):(aV x ps ⟨st,true,sz⟩ T pl h).map (iw g)=aV y ps ⟨st,true,sz⟩ T pl h:=by
 subst hx;have ok:=yi (n:=7) (yT (c:=⟨st,true,sz⟩) (T:=T) (pl:=pl) (h:=h) bS);have hg:∀k,cY 22 k=true->g k=k:=λk hk=>hg k (eF.mp hk);exact cga (B2 hg ok.1) (Ny (a:=.dict [(sl "e",.ref (g x))]) rfl (B2 hg (yi (n:=1) ok.2).2))
theorem H6 {al:Nat->Bool}:∀{l r},eP al l=true->eP al r=true->eP al (l++r)=true
 |[],_,_,h=>h
 |o::l,r,h1,h2=>by
  dsimp only[eP]at h1;rw[cc]at h1;show(ji al o&&eP al (l++r))=true;rw[cc];exact⟨h1.1,H6 h1.2 h2⟩
theorem XG (e1:bp aR cG (.ca 20 (.fn 840) [.ref 13,.str k,.str w,.int p]) (aV 0 ps ⟨st,false,sz⟩ T pl h) (.ok (.v (.ref j))) τ)(ht:τ.take 22=aV 0 ps ⟨bD,false,cb⟩ T pl h)(hj:ay τ j=some (.list aM))(k7:22<=j)(bS:dj ps=true)(eo:dj aM=true)(hd:20<=d)(aq:Sg):fM aR cG 840 fU d [.ref 13,.str k,.str w,.int p] (aV e ps ⟨st,false,sz⟩ T pl h++aq)=some (.ok (.ref (22+aq.length)),aV e ps ⟨bD,false,cb⟩ T pl h++aq++[.list aM]):=by
 obtain hw: fU d [.ref 13,.str k,.str w,.int p] (aV e ps ⟨st,false,sz⟩ T pl h++aq)=some (.ok (.ref (22+aq.length)),aV e ps ⟨bD,false,cb⟩ T pl h++aq++[.list aM]):=by
  show si _ _=_;unfold si;rw[show(aV e ps ⟨st,false,sz⟩ T pl h++aq).take 22=aV 0 ps ⟨st,false,sz⟩ T pl h from rfl,show(aV e ps ⟨st,false,sz⟩ T pl h++aq).drop 22=aq from rfl,o6 e1];dsimp only;rw[hj];dsimp only;rw[jW ht rfl (by decide:7<22),ht];rfl
 refine oZ hw ?_;refine oE (bp.pz (r:=.ok (.ref j)) e1) ?_;rintro n hr;have gl:∀i,cY 22 i=true->cq 22 0 (aV e ps ⟨st,false,sz⟩ T pl h++aq).length j (λZ=>0) i=i:=λi hi=>if_pos (eF.mp hi);have gj:cq 22 0 (aV e ps ⟨st,false,sz⟩ T pl h++aq).length j (λZ=>0) j=22+aq.length:=by
  unfold cq;rw[if_neg (d8.mpr k7),if_neg (d8.mpr k7),bk,jF];lia
 have mH:∀{st sz:Nat},eP (cY 22) (aV 0 ps ⟨st,false,sz⟩ T pl h)=true:=yT bS;have J:=tW (P:=aR) (Γ:=cG) (a:=840) (d:=d) (as:=[.ref 13,.str k,.str w,.int p]) (dm:=aV 0 ps ⟨st,false,sz⟩ T pl h) (σ:=aV e ps ⟨st,false,sz⟩ T pl h++aq) (aj:=aV e ps ⟨bD,false,cb⟩ T pl h++aq++[.list aM]) (rs:=.ok (.ref j)) (τ:=τ) 22 0 1 j (λZ=>0) hd hr rfl
  (λj hj=>by lia) (λi j hi=>by lia) (by rw[bk,jF];exact(dK 22 (ew aq))) (k7) mH rfl
  (λv hv=>by(refine dI hv ?_);show d6 22 0 j 1 j=true;unfold d6;simp[cE])
  (λi hi=>by
   unfold d6 at hi;rw[jk,cc]at hi;refine aG hi ?_ (kA ?_)
   ·rintro hi;have hi:=eF.mp hi;refine oE (qm (l:=aV 0 ps ⟨bD,false,cb⟩ T pl h) (i:=i) hi) ?_;rintro o ho;refine(aP o ((jW ht rfl hi).trans ho) ?_);exact vS (λk hk=>by unfold d6;rw[jk];exact .inl hk) (jm mH ho)
   ·rintro h1 h2;have h1:=dA h1;have h2:=eF.mp h2;(refine il (show i=j by exact xK h1 h2) ?_);exact(aP _ hj (gP eo)))
  (λj hj=>by lia)
  (λi o ho=>by
   have hi:=bK ho;rw[gl i (eF.mpr hi),dB (hi)];refine(show ay (aV e ps ⟨st,false,sz⟩ T pl h) i=ay (aV 0 ps ⟨st,false,sz⟩ T pl h) i from rfl).trans ?_;rw[ho,nU gl (jm mH ho)])
  (λi o hi ho=>by
   rw[jW ht rfl hi]at ho;rw[bM,dB (hi)];refine(show ay (aV e ps ⟨bD,false,cb⟩ T pl h) i=ay (aV 0 ps ⟨bD,false,cb⟩ T pl h) i from rfl).trans ?_;rw[ho,nU gl (jm mH ho)])
  (λi h1 h2=>by
   rw[bk,jF]at h2;obtain⟨i,rfl⟩:∃x,i=22+x:=⟨i-22,by exact eG (pW h1)⟩;rw[bM];rw[show 22+i=(aV e ps ⟨bD,false,cb⟩ T pl h).length+i from rfl,eE,dB (A8 h2)];rw[show(aV e ps ⟨bD,false,cb⟩ T pl h).length+i=(aV e ps ⟨st,false,sz⟩ T pl h).length+i from rfl,eE])
  (λx o hx ho=>by
   obtain rfl:x=0:=by exact BO.mp hx
   rw[jT,hj]at ho;(refine aT ho ?_);rw[jT];show ay (aV e ps ⟨bD,false,cb⟩ T pl h++aq++[O.list aM]) (aV e ps ⟨st,false,sz⟩ T pl h++aq).length=some (.list (eU _ aM));rw[mW eo];have af:=eE (l:=aV e ps ⟨bD,false,cb⟩ T pl h++aq) (r:=[O.list aM]) (i:=0);rw[jT]at af;rw[show(aV e ps ⟨st,false,sz⟩ T pl h++aq).length=(aV e ps ⟨bD,false,cb⟩ T pl h++aq).length by simp[jF]];exact af)
  (by simp[jF];exact eG (eG (aH (22+(ew aq+1)))))
 obtain e2: qL (cq 22 0 (aV e ps ⟨st,false,sz⟩ T pl h++aq).length j λZ=>0) (.ok (.ref j))=.ok (.ref (22+aq.length)):=by
  show Rs.ok (V.ref _)=_;rw[gj]
 rw[e2]at J;exact J
theorem Wi (e1:bp aR cG (.ca 20 (.fn 840) [.ref 13,.str k,.str w,.int p]) (aV 0 ps ⟨st,false,sz⟩ T pl h) .exc τ)(ht:τ.take 22=aV 0 ps ⟨bD,false,cb⟩ T pl h)(bS:dj ps=true)(hd:20<=d)(aq:Sg):fM aR cG 840 fU d [.ref 13,.str k,.str w,.int p] (aV e ps ⟨st,false,sz⟩ T pl h++aq)=some (.exc,aV e ps ⟨bD,false,cb⟩ T pl h++aq):=by
 obtain hw: fU d [.ref 13,.str k,.str w,.int p] (aV e ps ⟨st,false,sz⟩ T pl h++aq)=some (.exc,aV e ps ⟨bD,false,cb⟩ T pl h++aq):=by
  show si _ _=_;unfold si;rw[show(aV e ps ⟨st,false,sz⟩ T pl h++aq).take 22=aV 0 ps ⟨st,false,sz⟩ T pl h from rfl,show(aV e ps ⟨st,false,sz⟩ T pl h++aq).drop 22=aq from rfl,o6 e1];dsimp only;rw[ht];rfl
 refine oZ hw ?_;refine oE (bp.pz (r:=.exc) e1) ?_;rintro n hr;have gl:∀i,cY 22 i=true->cq 22 0 (aV e ps ⟨st,false,sz⟩ T pl h++aq).length 22 (λZ=>0) i=i:=λi hi=>if_pos (eF.mp hi);have mH:∀{st sz:Nat},eP (cY 22) (aV 0 ps ⟨st,false,sz⟩ T pl h)=true:=yT bS;have J:=tW (P:=aR) (Γ:=cG) (a:=840) (d:=d) (as:=[.ref 13,.str k,.str w,.int p]) (dm:=aV 0 ps ⟨st,false,sz⟩ T pl h) (σ:=aV e ps ⟨st,false,sz⟩ T pl h++aq) (aj:=aV e ps ⟨bD,false,cb⟩ T pl h++aq) (rs:=.exc) (τ:=τ) 22 0 0 22 (λZ=>0) hd hr rfl
  (λj hj=>by lia) (λi j hi=>by lia) (by rw[bk,jF];exact(dK 22 (ew aq))) ((bc (22+0))) mH rfl
  (λv hv=>by exact nC Zq.Rs.ctorIdx hv rfl)
  (λi hi=>by
   unfold d6 at hi;rw[jk,cc]at hi;refine aG hi ?_ (kA ?_)
   ·rintro hi;have hi:=eF.mp hi;refine oE (qm (l:=aV 0 ps ⟨bD,false,cb⟩ T pl h) (i:=i) hi) ?_;rintro o ho;refine(aP o ((jW ht rfl hi).trans ho) ?_);exact vS (λk hk=>by unfold d6;rw[jk];exact .inl hk) (jm mH ho)
   ·rintro h1 h2;obtain h1:= dA h1;obtain h2:= eF.mp h2;lia)
  (λj hj=>by lia)
  (λi o ho=>by
   have hi:=bK ho;rw[gl i (eF.mpr hi),dB (hi)];refine(show ay (aV e ps ⟨st,false,sz⟩ T pl h) i=ay (aV 0 ps ⟨st,false,sz⟩ T pl h) i from rfl).trans ?_;rw[ho,nU gl (jm mH ho)])
  (λi o hi ho=>by
   rw[jW ht rfl hi]at ho;rw[dB (hi)];refine(show ay (aV e ps ⟨bD,false,cb⟩ T pl h) i=ay (aV 0 ps ⟨bD,false,cb⟩ T pl h) i from rfl).trans ?_;rw[ho,nU gl (jm mH ho)])
  (λi h1 h2=>by
   rw[bk,jF]at h2;obtain⟨i,rfl⟩:∃x,i=22+x:=⟨i-22,by exact eG (pW h1)⟩;rw[show 22+i=(aV e ps ⟨bD,false,cb⟩ T pl h).length+i from rfl,eE];rw[show(aV e ps ⟨bD,false,cb⟩ T pl h).length+i=(aV e ps ⟨st,false,sz⟩ T pl h).length+i from rfl,eE])
  (λx o hx ho=>by lia)
  (by simp[jF])
 exact J
theorem Xo (e1:bp aR cG (.ca 20 (.fn 840) [.ref 13,.str k,.str w,.int p]) (aV 0 ps ⟨st,false,sz⟩ T pl h) (.ok (.v (.ref 26))) τ)(ht:τ.take 22=aV 25 ps ⟨bD,true,cb⟩ T pl h)(h4:ay τ 24=some gz)(h5:ay τ 25=some (.inst 921 24))(hj:ay τ 26=some (.list aM))(bS:dj ps=true)(eo:dj aM=true)(hd:20<=d)(aq:Sg):fM aR cG 840 fU d [.ref 13,.str k,.str w,.int p] (aV e ps ⟨st,false,sz⟩ T pl h++aq)=some (.ok (.ref (22+aq.length+2)),aV (22+aq.length+1) ps ⟨bD,true,cb⟩ T pl h++aq++[gz,.inst 921 (22+aq.length),.list aM]):=by
 obtain hw: fU d [.ref 13,.str k,.str w,.int p] (aV e ps ⟨st,false,sz⟩ T pl h++aq)=some (.ok (.ref (22+aq.length+2)),aV (22+aq.length+1) ps ⟨bD,true,cb⟩ T pl h++aq++[gz,.inst 921 (22+aq.length),.list aM]):=by
  show si _ _=_;unfold si;rw[show(aV e ps ⟨st,false,sz⟩ T pl h++aq).take 22=aV 0 ps ⟨st,false,sz⟩ T pl h from rfl,show(aV e ps ⟨st,false,sz⟩ T pl h++aq).drop 22=aq from rfl,o6 e1];dsimp only;rw[hj];dsimp only;rw[jW ht rfl (by decide:7<22),ht];rfl
 refine oZ hw ?_;refine oE (bp.pz (r:=.ok (.ref 26)) e1) ?_;rintro n hr;have hL:(aV e ps ⟨st,false,sz⟩ T pl h++aq).length=22+aq.length:=by rw[bk,jF]
 rw[show(aV e ps ⟨st,false,sz⟩ T pl h++aq)=(aV e ps ⟨st,false,sz⟩ T pl h++aq) from rfl];have gl:∀i,cY 22 i=true->cq 22 0 (aV e ps ⟨st,false,sz⟩ T pl h++aq).length 24 (λZ=>0) i=i:=λi hi=>if_pos (eF.mp hi);have gC:∀i,22<=i->cq 22 0 (aV e ps ⟨st,false,sz⟩ T pl h++aq).length 24 (λZ=>0) i=22+aq.length+(i-24):=λi hi=>by
  unfold cq;rw[if_neg (d8.mpr hi),if_neg (d8.mpr hi),hL]
 have mH:eP (cY 22) (aV 0 ps ⟨st,false,sz⟩ T pl h)=true:=yT bS;obtain Z5: eP (d6 22 0 24 3) (aV 25 ps ⟨bD,true,cb⟩ T pl h)=true:=by
  obtain h1:=gP bS;obtain h3:=gP (yr _);obtain e:eP (d6 22 0 24 3) (aV 25 ps ⟨bD,true,cb⟩ T pl h)=(dq (d6 22 0 24 3) ps&&(dq (d6 22 0 24 3) (Co.names ⟨bD,true,cb⟩)&&true)):=rfl;rw[e,h1,h3];rfl
 have J:=tW (P:=aR) (Γ:=cG) (a:=840) (d:=d) (as:=[.ref 13,.str k,.str w,.int p]) (dm:=aV 0 ps ⟨st,false,sz⟩ T pl h) (σ:=aV e ps ⟨st,false,sz⟩ T pl h++aq) (aj:=aV (22+aq.length+1) ps ⟨bD,true,cb⟩ T pl h++aq++[gz,.inst 921 (22+aq.length),.list aM]) (rs:=.ok (.ref 26)) (τ:=τ) 22 0 3 24 (λZ=>0) hd hr rfl
  (λj hj=>by lia) (λi j hi=>by lia) (by rw[bk,jF];exact(dK 22 (ew aq))) ((cJ (22+0) 2)) mH rfl
  (λv hv=>by(refine dI hv ?_);rfl)
  (λi hi=>by
   unfold d6 at hi;rw[jk,cc]at hi;refine aG hi ?_ (kA ?_)
   ·rintro hi;have hi:=eF.mp hi;refine oE (qm (l:=aV 25 ps ⟨bD,true,cb⟩ T pl h) (i:=i) hi) ?_;rintro o ho;exact(aP o ((jW ht rfl hi).trans ho) (jm Z5 ho))
   ·clear hi;rintro h1 h2;obtain h1:= dA h1;obtain h2:= eF.mp h2;obtain af: i=24\/i=25\/i=26:=by lia
    focus(refine pS af ?_ ?_ ?_;clear af;clear h1 h2;rintro rfl;rotate_left;clear af;clear h1 h2;rintro rfl;rotate_left;clear af;clear h1 h2;rintro rfl;rotate_left)
    ·exact(aP _ h4 rfl)
    ·exact(aP _ h5 rfl)
    ·exact(aP _ hj (gP eo)))
  (λj hj=>by lia)
  (λi o ho=>by
   have hi:=bK ho;rw[gl i (eF.mpr hi),dB (hi)];refine(show ay (aV e ps ⟨st,false,sz⟩ T pl h) i=ay (aV 0 ps ⟨st,false,sz⟩ T pl h) i from rfl).trans ?_;rw[ho,nU gl (jm mH ho)])
  (λi o hi ho=>by
   rw[jW ht rfl hi]at ho;rw[bM,dB (hi)];obtain af:= CA (f:=iw (cq 22 0 (aV e ps ⟨st,false,sz⟩ T pl h++aq).length 24 (λZ=>0))) ho;rw[IZ (λi hi=>gl i (eF.mpr hi)) (gC 25 (by decide)) bS]at af;exact af)
  (λi h1 h2=>by
   rw[bk,jF]at h2;obtain⟨i,rfl⟩:∃x,i=22+x:=⟨i-22,by exact eG (pW h1)⟩;rw[bM];rw[show 22+i=(aV (22+aq.length+1) ps ⟨bD,true,cb⟩ T pl h).length+i from rfl,eE,dB (A8 h2)];rw[show(aV (22+aq.length+1) ps ⟨bD,true,cb⟩ T pl h).length+i=(aV e ps ⟨st,false,sz⟩ T pl h).length+i from rfl,eE])
  (λx o hx ho=>by
   obtain hn: ∀y,ay (aV (22+aq.length+1) ps ⟨bD,true,cb⟩ T pl h++aq++[gz,.inst 921 (22+aq.length),.list aM]) (22+aq.length+y)=ay [gz,O.inst 921 (22+aq.length),.list aM] y:=λy=>by
    have af:=eE (l:=aV (22+aq.length+1) ps ⟨bD,true,cb⟩ T pl h++aq) (r:=[gz,O.inst 921 (22+aq.length),.list aM]) (i:=y);rw[bk,jF]at af;exact af
   rw[hL,hn];obtain af: x=0\/x=1\/x=2:=by lia
   focus(refine pS af ?_ ?_ ?_;clear af;rintro rfl;rotate_left;clear af;rintro rfl;rotate_left;clear af;rintro rfl;rotate_left)
   ·have ho:ay τ 24=some o:=ho;rw[h4]at ho;(refine aT ho ?_);rfl
   ·have ho:ay τ 25=some o:=ho;rw[h5]at ho;(refine aT ho ?_);have g24:cq 22 0 (22+aq.length) 24 (λZ=>0) 24=22+aq.length:=rfl;show some (O.inst 921 (22+aq.length))=some (O.inst 921 (cq 22 0 (22+aq.length) 24 (λZ=>0) 24));rw[g24]
   ·have ho:ay τ 26=some o:=ho;rw[hj]at ho;(refine aT ho ?_);show some (O.list aM)=some (O.list (eU _ aM));rw[mW eo])
  (by simp[jF];exact eG (eG (aH (22+(ew aq+3)))))
 obtain e2: qL (cq 22 0 (aV e ps ⟨st,false,sz⟩ T pl h++aq).length 24 λZ=>0) (.ok (.ref 26))=.ok (.ref (22+aq.length+2)):=by
  show Rs.ok (V.ref _)=_;rw[gC 26 (by decide)]
 rw[e2]at J;exact J
end
section
variable {ps:List V}{c c':Co}{T h:ak}{pl:Int}{k w:ak}{p:Int}
noncomputable def sel (x y:Nat):Nat->Nat
 | 0=>22+x
 |_=>22+y
theorem AQ (h:j<2):j=0\/j=1:=by lia
theorem XH (z:¬i<22)(h:i<24):i=22\/i=23:=by lia
noncomputable def n8 (e:Nat)(aq:Sg):Prop:=∃x y,e=22+y/\x≠y/\ay aq x=some gz/\ay aq y=some (.inst 921 (22+x))
theorem n8.app (h:n8 e aq):n8 e (aq++more):=by
 refine dT h ?_;clear h;rintro x y h1 h2 h3 h4;exact(dp x y h1 h2 ((dB (bK h3)).trans h3) ((dB (bK h4)).trans h4))
theorem n8.new:n8 (22+aq.length+1) (aq++gz::.inst 921 (22+aq.length)::more):=by
 refine(dp aq.length (aq.length+1) (by exact eG (eG (aH (22+ew aq+1)))) (by exact Nat.ne_add_one (ew aq)) ?_ ?_)
 ·have af:=eE (l:=aq) (r:=gz::O.inst 921 (22+aq.length)::more) (i:=0);exact af
 ·have af:=eE (l:=aq) (r:=gz::O.inst 921 (22+aq.length)::more) (i:=1);exact af
abbrev k6 (ps:List V)(c:Co)(T:ak)(pl:Int)(h:ak):Sg:=aV 23 ps c T pl h++[gz,.inst 921 22]
theorem Kl (hr:run aR cG n (.ca 20 (.fn 840) [.ref 13,.str k,.str w,.int p]) (k6 ps ⟨st,true,sz⟩ T pl h)=some (wZ rs,τ))(ht:τ.take 24=k6 ps ⟨bD,true,cb⟩ T pl h)(hk:24<=k0)(hq:(q=0/\rs=.exc/\r=.exc/\nw=[])\/(q=1/\rs=.ok (.ref k0)/\∃aM,ay τ k0=some (.list aM)/\dj aM=true/\nw=[.list aM]))(bS:dj ps=true)(hd:20<=d)(aq:Sg)(he:n8 e aq)(tw:q=1->r=.ok (.ref (22+aq.length))):sP aR cG 840 d [.ref 13,.str k,.str w,.int p] (aV e ps ⟨st,true,sz⟩ T pl h++aq) r (aV e ps ⟨bD,true,cb⟩ T pl h++aq++nw):=by
 refine dT he ?_;clear he;rintro x y rfl uS hx hy;obtain lx:= bK hx;obtain ly:= bK hy;have hL:(aV (22+y) ps ⟨st,true,sz⟩ T pl h++aq).length=22+aq.length:=by rw[bk,jF]
 generalize mL:aV (22+y) ps ⟨st,true,sz⟩ T pl h++aq=σ at hL ⊢;have gl:∀i,i<22->cq 22 2 σ.length k0 (sel x y) i=i:=λi hi=>if_pos hi;have Nm:cq 22 2 σ.length k0 (sel x y) 22=22+x:=by
  unfold cq;rw[if_neg (qe 22),if_pos (by exact(cJ (kC 22) 1))];rfl
 have N6:cq 22 2 σ.length k0 (sel x y) 23=22+y:=by
  unfold cq;rw[if_neg (by exact Nat.not_succ_lt_self),if_pos (by exact(bc (kC 23)))];rfl
 have gk:cq 22 2 σ.length k0 (sel x y) k0=22+aq.length:=by
  unfold cq;rw[if_neg (d8.mpr (bC (by decide) hk)),if_neg (by exact d8.mpr hk),hL,Nat.sub_self];rfl
 have rn:∀{st sz:Nat},(aV 23 ps ⟨st,true,sz⟩ T pl h).map (iw (cq 22 2 σ.length k0 (sel x y)))=aV (22+y) ps ⟨st,true,sz⟩ T pl h:=IZ gl N6 bS;have rE:iw (cq 22 2 σ.length k0 (sel x y)) gz=gz:=rfl;have rI:iw (cq 22 2 σ.length k0 (sel x y)) (.inst 921 22)=.inst 921 (22+x):=congrArg (O.inst 921) Nm;have ok:∀{st sz:Nat},eP (cY 24) (k6 ps ⟨st,true,sz⟩ T pl h)=true:=H6 (QM bS) rfl;obtain sm: ∀{st sz i:Nat},i<22->ay (k6 ps ⟨st,true,sz⟩ T pl h) i=ay (aV 23 ps ⟨st,true,sz⟩ T pl h) i:=λhi=>dB (hi);have L7:∀{st sz i:Nat} {o:O},i<22->ay (k6 ps ⟨st,true,sz⟩ T pl h) i=some o->ay (aV (22+y) ps ⟨st,true,sz⟩ T pl h) i=some (iw (cq 22 2 σ.length k0 (sel x y)) o):=λhi ho=>by
  rw[sm hi]at ho;obtain af:= CA (f:=iw (cq 22 2 σ.length k0 (sel x y))) ho
  rwa [rn]at af
 have FT:∀(i:Nat),ay σ (22+i)=ay aq i:=λi=>by
  rw[<- mL,show 22+i=(aV (22+y) ps ⟨st,true,sz⟩ T pl h).length+i from rfl,eE]
 have NQ:nw.length=q:=by
  focus(refine aG hq (Me ?_) (Dl ?_);clear hq;clear tw;rintro rfl _ _ rfl;rotate_left;clear hq;clear tw;rintro rfl _ aM _ _ rfl;rotate_left)<;>rfl
 have J:=tW (P:=aR) (Γ:=cG) (a:=840) (d:=d) (as:=[.ref 13,.str k,.str w,.int p]) (dm:=k6 ps ⟨st,true,sz⟩ T pl h) (σ:=σ) (aj:=aV (22+y) ps ⟨bD,true,cb⟩ T pl h++aq++nw) (rs:=rs) (τ:=τ) 22 2 q k0 (sel x y) hd hr rfl
  (λj hj=>by
   obtain af:=AQ hj;refine aG af ?_ ?_
   ·clear af;clear hj;rintro rfl;exact⟨(show 22<=22+x by exact(dK 22 x)),(show 22+x<σ.length by rw[hL];exact pV lx 22)⟩
   ·clear af;clear hj;rintro rfl;exact⟨(show 22<=22+y by exact(dK 22 y)),(show 22+y<σ.length by rw[hL];exact pV ly 22)⟩)
  (λi j hi hj kR=>by
   have h1:=AQ hi;have h2:=AQ hj;focus(refine aG h1 ?_ ?_;clear h1;rintro rfl;rotate_left;clear h1;rintro rfl;rotate_left)<;>focus(refine aG h2 ?_ ?_;clear h2;rintro rfl;rotate_left;clear h2;rintro rfl;rotate_left)
   ·rfl
   ·exact absurd (Hw kR) uS
   ·exact absurd (Hw kR).symm uS
   ·rfl)
  (ve (hZ (eG hL))) hk ok rfl
  (λv hv=>by
   refine aG hq (tx ?_) (tx ?_)
   ·rintro _ z _;rw[z]at hv;exact nC Zq.Rs.ctorIdx hv rfl
   ·clear hq;clear NQ tw;rintro rfl z _;rw[z]at hv;(refine dI hv ?_);show d6 22 2 k0 1 k0=true;unfold d6;simp[cE])
  (λi hi=>by
   unfold d6 at hi;rw[jk,cc]at hi;refine aG hi ?_ (kA ?_)
   ·rintro hi;have hi:=eF.mp hi;refine oE (qm (l:=k6 ps ⟨bD,true,cb⟩ T pl h) (i:=i) hi) ?_;rintro o ho;refine(aP o ((jW ht rfl hi).trans ho) ?_);exact vS (λk hk=>by unfold d6;rw[jk];exact .inl hk) (jm ok ho)
   ·clear hi;rintro h1 h2;have h1:=dA h1;have h2:=eF.mp h2;refine aG hq (kA ?_) (Dl ?_)
    ·clear hq;rintro rfl _;exact absurd h2 (d8.mpr h1)
    ·clear hq;rintro rfl _ aM hj eo _;(refine il (show i=k0 by exact xK h1 h2) ?_);exact(aP _ hj (gP eo)))
  (λj hj=>by
   rw[jW ht rfl (show 22+j<24 by exact Nat.add_lt_of_lt_sub' hj)];obtain af:=AQ hj;focus(refine aG af ?_ ?_;clear af;clear hj;rintro rfl;rotate_left;clear af;clear hj;rintro rfl;rotate_left)<;>rfl)
  (λi o ho=>by
   by_cases z:i<22
   ·rw[gl i z,<- mL,dB (z)];obtain af:= L7 z ho;rw[mL];exact af
   ·have hi:i<24:=bK ho;obtain af:=XH z hi;refine aG af ?_ ?_
    ·clear af;rintro rfl;(refine aT ho ?_);rw[Nm,FT,hx];rfl
    ·clear af;rintro rfl;(refine aT ho ?_);rw[N6,FT,hy,rI])
  (λi o hi ho=>by
   rw[jW ht rfl (show i<24 by exact bC hi (cJ 22 2))]at ho;rw[bM,dB (hi)];exact L7 hi ho)
  (λi h1 h2=>by
   rw[hL]at h2;obtain⟨i,rfl⟩:∃x,i=22+x:=⟨i-22,by exact eG (pW h1)⟩;rw[FT,bM];rw[show 22+i=(aV (22+y) ps ⟨bD,true,cb⟩ T pl h).length+i from rfl,eE,dB (A8 h2)])
  (λj o fF ho=>by
   refine aG hq (kA ?_) (Dl ?_)
   ·clear hq;rintro rfl _;exact absurd fF (qb _)
   ·clear hq;rintro rfl _ aM hj eo rfl;obtain rfl:j=0:=by exact BO.mp fF
    rw[jT,hj]at ho;(refine aT ho ?_);rw[jT,hL];have af:=eE (l:=aV (22+y) ps ⟨bD,true,cb⟩ T pl h++aq) (r:=[O.list aM]) (i:=0);rw[bk,jF]at af;refine af.trans ?_;show some (O.list aM)=some (O.list (eU _ aM));rw[mW eo])
  (by rw[hL];simp[jF,NQ];exact eG (JA 22 (ew aq) q))
 obtain e2: qL (cq 22 2 σ.length k0 (sel x y)) rs=r:=by
  refine aG hq (Me ?_) (tx ?_)
  ·clear hq;clear J hr tw;rintro _ rfl rfl _;rfl
  ·clear hq;clear J hr;rintro hq rfl _;rw[tw hq];show Rs.ok (V.ref _)=_;rw[gk]
 rw[e2]at J;exact J
theorem WZ (e1:bp aR cG (.ca 20 (.fn 840) [.ref 13,.str k,.str w,.int p]) (k6 ps ⟨st,true,sz⟩ T pl h) (.ok (.v (.ref j))) τ)(ht:τ.take 24=k6 ps ⟨bD,true,cb⟩ T pl h)(hj:ay τ j=some (.list aM))(k7:24<=j)(bS:dj ps=true)(eo:dj aM=true)(hd:20<=d)(aq:Sg)(he:n8 e aq):fM aR cG 840 fU d [.ref 13,.str k,.str w,.int p] (aV e ps ⟨st,true,sz⟩ T pl h++aq)=some (.ok (.ref (22+aq.length)),aV e ps ⟨bD,true,cb⟩ T pl h++aq++[.list aM]):=by
 obtain Gn: τ.take 22=aV 23 ps ⟨bD,true,cb⟩ T pl h:=by
  obtain af:= congrArg (y4 22) ht;rw[BN]at af;exact af
 obtain hw: fU d [.ref 13,.str k,.str w,.int p] (aV e ps ⟨st,true,sz⟩ T pl h++aq)=some (.ok (.ref (22+aq.length)),aV e ps ⟨bD,true,cb⟩ T pl h++aq++[.list aM]):=by
  show wg (.dict [(sl "e",.ref e)]) [.str k,.str w,.int p] (aV e ps ⟨st,true,sz⟩ T pl h++aq)=_;unfold wg;rw[show bG ((aV e ps ⟨st,true,sz⟩ T pl h++aq).take 22) 7 (.dict [(sl "e",.ref 23)])++[gz,.inst 921 22]=k6 ps ⟨st,true,sz⟩ T pl h from rfl,show(aV e ps ⟨st,true,sz⟩ T pl h++aq).drop 22=aq from rfl,o6 e1];dsimp only;rw[hj];skip;rw[Gn];rfl
 refine oZ hw ?_;refine oE (bp.pz (r:=.ok (.ref j)) e1) ?_;rintro n hr;exact Kl (q:=1) (k0:=j) (rs:=.ok (.ref j)) (nw:=[.list aM]) hr ht k7 (.inr ⟨rfl,rfl,aM,hj,eo,rfl⟩) bS hd aq he λZ=>rfl
theorem VA (e1:bp aR cG (.ca 20 (.fn 840) [.ref 13,.str k,.str w,.int p]) (k6 ps ⟨st,true,sz⟩ T pl h) .exc τ)(ht:τ.take 24=k6 ps ⟨bD,true,cb⟩ T pl h)(bS:dj ps=true)(hd:20<=d)(aq:Sg)(he:n8 e aq):fM aR cG 840 fU d [.ref 13,.str k,.str w,.int p] (aV e ps ⟨st,true,sz⟩ T pl h++aq)=some (.exc,aV e ps ⟨bD,true,cb⟩ T pl h++aq):=by
 obtain Gn: τ.take 22=aV 23 ps ⟨bD,true,cb⟩ T pl h:=by
  obtain af:= congrArg (y4 22) ht;rw[BN]at af;exact af
 obtain hw: fU d [.ref 13,.str k,.str w,.int p] (aV e ps ⟨st,true,sz⟩ T pl h++aq)=some (.exc,aV e ps ⟨bD,true,cb⟩ T pl h++aq):=by
  show wg (.dict [(sl "e",.ref e)]) [.str k,.str w,.int p] (aV e ps ⟨st,true,sz⟩ T pl h++aq)=_;unfold wg;rw[show bG ((aV e ps ⟨st,true,sz⟩ T pl h++aq).take 22) 7 (.dict [(sl "e",.ref 23)])++[gz,.inst 921 22]=k6 ps ⟨st,true,sz⟩ T pl h from rfl,show(aV e ps ⟨st,true,sz⟩ T pl h++aq).drop 22=aq from rfl,o6 e1];dsimp only;rw[Gn];rfl
 refine oZ hw ?_;refine oE (bp.pz (r:=.exc) e1) ?_;rintro n hr;have af:=Kl (q:=0) (k0:=24) (rs:=.exc) (r:=.exc) (nw:=[]) hr ht ((bc 24)) (.inl (pq rfl rfl rfl rfl)) bS hd aq he λh=>by cases h
 rw[di]at af;exact af
end
variable {G:Nat->Option (Nat->List V->Mo V)}
noncomputable def bX (ai:Bool):Nat:=match ai with
 |false=>24
 |true=>22
theorem oQ (ai:Bool)(e:Nat)(ps:List V)(c:Co)(T:ak)(pl:Int)(h:ak):(aC ai e ps c T pl h).length=bX ai:=by induction ai<;>rfl
noncomputable def mN (ai:Bool)(c:Co)(e:Nat)(aq:Sg):Prop:=ai=true->c.hd=true->n8 e aq
theorem mN.app (h:mN ai c e aq):mN ai c e (aq++more):=λa b=>(h a b).app
theorem tU:ay (aC ai e ps c T pl h++aq) (bX ai+j)=ay aq j:=by
 rw[<- oQ ai e ps c T pl h,eE]
theorem add_str (σ:Sg)(h:(aa a).length+(aa b).length<=8192):gW .Add (.str a) (.str b) σ=some (.ok (.str (aw (aa a++aa b))),σ):=by
 show(match fits (a.length+b.length) with|true=>rt (V.str (a++b))|false=>no) σ=_;obtain af: a.length+b.length<=16777216:=by
  simp[l0]at h ⊢;exact bC h (cJ 8192 16769024)
 rw[iI af];obtain e: a++b=aw (aa a++aa b):=by
  apply Str.ext';apply Array.toList_inj.mp;rw[IF,Bd]
 show some (Rs.ok (V.str (a++b)),σ)=_;rw[e]
theorem add_list (h1:ay σ i=some (.list l))(h2:ay σ j=some (.list r))(h:l.length+r.length<=100000):gW .Add (.ref i) (.ref j) σ=some (.ok (.ref σ.length),σ++[.list (l++r)]):=by
 obtain e: gW .Add (.ref i) (.ref j)=bd (gt (listAt i)) λl=>bd (gt (listAt j)) λr=>match fits (l.length+r.length) with
  |true=>bd (al (.list (l++r))) λk=>rt (V.ref k)
  |false=>no:=rfl
 obtain e1: listAt i σ=some l:=by unfold listAt;rw[h1]
 obtain e2: listAt j σ=some r:=by unfold listAt;rw[h2]
 rw[e];unfold bd gt;rw[e1];dsimp only;rw[e2];dsimp only;rw[iI (by exact bC h (cJ 100000 16677216))];rfl
theorem PV (σ:Sg)(h:sm t):js (.str t) none (some (.int (-1))) σ=some (.ok (.str (aw (aa t).dropLast)),σ):=by
 obtain e: js (.str t) none (some (.int (-1)))=(match fits (aa t).length with
  |false=>no
  |true=>rt (V.str (iz t 0 (bound (-1) (aa t).length)))):=rfl
 rw[e,h.fits];obtain af: iz t 0 (bound (-1) (aa t).length)=aw (aa t).dropLast:=by
  show(⟨⟨((aa t).take ((aa t).length-1)).drop 0⟩⟩:ak)=_;rw[rK,List.dropLast_eq_take]
 show some (Rs.ok (V.str (iz t 0 (bound (-1) (aa t).length))),σ)=_;rw[af]
section
variable {ai:Bool}{e:Nat}{ps:List V}{c:Co}{T h:ak}{pl:Int}{aq:Sg}
noncomputable def ru (l:List Nat):Bool:=jH (aw l) (ch 13)
noncomputable def fD (l:List Nat):List Nat:=match ru l with|true=>l.dropLast|false=>l
noncomputable def eg (l:List Nat):List Nat:=match ru l with|true=>[13]|false=>[]
theorem RK (hT:sm T)(hp:(aa h).length+(aa part).length<=4000):∃l1 l2,bp aR (bJ G) (.ca (d+2) (.fn 554) [PR ai,.str part]) (aC ai e ps c T pl h++aq) (.ok (.v .none))
 (aC ai e ps c (aw (aa T++nl (fD (aa h++aa part)))) pl (aw (eg (aa h++aa part)))++(aq++[.list l1,.list l2])):=by
 obtain hJ:sm (aw (aa h++aa part)):=by show(aa h++aa part).length<=4096;rw[bk];exact bC hp (cJ 4000 96)
 obtain a1:=add_str (a:=h) (b:=part) (aC ai e ps c T pl h++aq) (bC hp (cJ 4000 4192));induction hc:ru (aa h++aa part) with
 |true =>
  obtain e1: fD (aa h++aa part)=(aa h++aa part).dropLast:=by unfold fD;rw[hc]
  obtain e2: eg (aa h++aa part)=[13]:=by unfold eg;rw[hc]
  rw[e1,e2];obtain hD: sm (aw (aa h++aa part).dropLast):=by show(aa h++aa part).dropLast.length<=4096;rw[List.length_dropLast,bk];lia
  obtain hn:= nW _ (aa h++aa part).dropLast (bc _);obtain xy: (aa h++aa part).dropLast.length<=4000:=by rw[List.length_dropLast,bk];exact bC (yO ((aa h).length+(aa part).length) 1) hp
  obtain a2:= PV (t:=aw (aa h++aa part)) (aC ai e ps c T pl (aw [13])++aq) hJ;obtain a3:=Cf (G:=G) (d:=d) (σ:=aC ai e ps c T pl (aw [13])++aq) hD;have a4:=add_str (a:=T) (b:=aw (nl (aa h++aa part).dropLast)) (aC ai e ps c T pl (aw [13])++aq++[.list (gH (aw (aa h++aa part).dropLast))]++[.list (iB (aw (aa h++aa part).dropLast))]) (by unfold sm at hT;show _+(nl (aa h++aa part).dropLast).length<=_;lia);refine(d7 (gH (aw (aa h++aa part).dropLast)) (iB (aw (aa h++aa part).dropLast)) ?_);obtain fin: aC ai e ps c (aw (aa T++nl (aa h++aa part).dropLast)) pl (aw [13])++(aq++[O.list (gH (aw (aa h++aa part).dropLast)),.list (iB (aw (aa h++aa part).dropLast))])=aC ai e ps c (aw (aa T++nl (aa h++aa part).dropLast)) pl (aw [13])++(aq++[O.list (gH (aw (aa h++aa part).dropLast))]++[.list (iB (aw (aa h++aa part).dropLast))]):=by simp
  rw[fin];clear fin;induction ai with
  |false=>exact aK 60 [.go,.o (.str (aw (aa h++aa part))),.b true,.o (.str (aw (aa h++aa part).dropLast)),.a (.ok (.str (aw (nl (aa h++aa part).dropLast)))) (aC false e ps c T pl (aw [13])++(aq++[.list (gH (aw (aa h++aa part).dropLast))]++[.list (iB (aw (aa h++aa part).dropLast))])),.o (.str (aw (aa T++nl (aa h++aa part).dropLast)))] (λz=>ae a1 (ae hc (ae a2 (ae a3 (ae a4 z)))))
  |true=>exact aK 60 [.go,.o (.str (aw (aa h++aa part))),.b true,.o (.str (aw (aa h++aa part).dropLast)),.a (.ok (.str (aw (nl (aa h++aa part).dropLast)))) (aC true e ps c T pl (aw [13])++(aq++[.list (gH (aw (aa h++aa part).dropLast))]++[.list (iB (aw (aa h++aa part).dropLast))])),.o (.str (aw (aa T++nl (aa h++aa part).dropLast)))] (λz=>ae a1 (ae hc (ae a2 (ae a3 (ae a4 z)))))
 |false =>
  obtain e1: fD (aa h++aa part)=aa h++aa part:=by unfold fD;rw[hc]
  obtain e2: eg (aa h++aa part)=[]:=by unfold eg;rw[hc]
  rw[e1,e2];obtain hn:= nW _ (aa h++aa part) (bc _);obtain xy: (aa h++aa part).length<=4000:=by rw[bk];exact hp
  obtain a3:=Cf (G:=G) (d:=d) (σ:=aC ai e ps c T pl (aw [])++aq) hJ;have a4:=add_str (a:=T) (b:=aw (nl (aa h++aa part))) (aC ai e ps c T pl (aw [])++aq++[.list (gH (aw (aa h++aa part)))]++[.list (iB (aw (aa h++aa part)))]) (by unfold sm at hT;show _+(nl (aa h++aa part)).length<=_;lia);refine(d7 (gH (aw (aa h++aa part))) (iB (aw (aa h++aa part))) ?_);obtain fin: aC ai e ps c (aw (aa T++nl (aa h++aa part))) pl (aw [])++(aq++[O.list (gH (aw (aa h++aa part))),.list (iB (aw (aa h++aa part)))])=aC ai e ps c (aw (aa T++nl (aa h++aa part))) pl (aw [])++(aq++[O.list (gH (aw (aa h++aa part)))]++[.list (iB (aw (aa h++aa part)))]):=by simp
  rw[fin];induction ai with
  |false=>exact aK 60 [.go,.o (.str (aw (aa h++aa part))),.b false,.a (.ok (.str (aw (nl (aa h++aa part))))) (aC false e ps c T pl (aw [])++(aq++[.list (gH (aw (aa h++aa part)))]++[.list (iB (aw (aa h++aa part)))])),.o (.str (aw (aa T++nl (aa h++aa part))))] (λz=>ae a1 (ae hc (ae a3 (ae a4 z))))
  |true=>exact aK 60 [.go,.o (.str (aw (aa h++aa part))),.b false,.a (.ok (.str (aw (nl (aa h++aa part))))) (aC true e ps c T pl (aw [])++(aq++[.list (gH (aw (aa h++aa part)))]++[.list (iB (aw (aa h++aa part)))])),.o (.str (aw (aa T++nl (aa h++aa part))))] (λz=>ae a1 (ae hc (ae a3 (ae a4 z))))
theorem T3 (hT:sm T)(hp:(aa h).length<=4000):∃l1 l2,bp aR (bJ G) (.ca (d+2) (.fn 568) [PR ai]) (aC ai e ps c T pl h++aq) (.ok (.v .none))
 (aC ai e ps c (aw (aa T++nl (aa h))) pl (aw [])++(aq++[.list l1,.list l2])):=by
 obtain hJ: sm h:=by skip;exact bC hp (cJ 4000 96)
 obtain hn:= nW _ (aa h) (bc _);obtain a3:=Cf (G:=G) (d:=d) (σ:=aC ai e ps c T pl h++aq) hJ;obtain a4:=add_str (a:=T) (b:=aw (nl (aa h))) (aC ai e ps c T pl h++aq++[.list (gH h)]++[.list (iB h)]) (by unfold sm at hT;show _+(nl (aa h)).length<=_;lia);refine(d7 (gH h) (iB h) ?_);obtain fin: aC ai e ps c (aw (aa T++nl (aa h))) pl (aw [])++(aq++[O.list (gH h),.list (iB h)])=aC ai e ps c (aw (aa T++nl (aa h))) pl (aw [])++(aq++[O.list (gH h)]++[.list (iB h)]):=by simp
 rw[fin];clear fin;induction ai with
 |false=>exact aK 60 [.go,.a (.ok (.str (aw (nl (aa h))))) (aC false e ps c T pl h++(aq++[.list (gH h)]++[.list (iB h)])),.o (.str (aw (aa T++nl (aa h))))] (λz=>ae a3 (ae a4 z))
 |true=>exact aK 60 [.go,.a (.ok (.str (aw (nl (aa h))))) (aC true e ps c T pl h++(aq++[.list (gH h)]++[.list (iB h)])),.o (.str (aw (aa T++nl (aa h))))] (λz=>ae a3 (ae a4 z))
end
noncomputable def Ab (ai:Bool)(ps:List V)(σ:Sg):Prop:=∃e c T pl h aq,σ=aC ai e ps c T pl h++aq
noncomputable def iO (ai:Bool)(c:Co)(k w:ak)(p:Int)(res:Option (List V×Co)):Prop:=∀(G:Nat->Option (Nat->List V->Mo V)),G 0=some (fM aR cG 840 fU)->∀ps T pl h e aq d,dj ps=true->20<=d->mN ai c e aq ->
 match res with
 |some (aM,c')=>∃e' more i,bp aR (bJ G) (.ca d (.fn 840) [SR ai,.str k,.str w,.int p]) (aC ai e ps c T pl h++aq) (.ok (.v (.ref i))) (aC ai e' ps c' T pl h++(aq++more))/\ay (aC ai e' ps c' T pl h++(aq++more)) i=some (.list aM)/\mN ai c' e' (aq++more)
 |none=>∃c',bp aR (bJ G) (.ca d (.fn 840) [SR ai,.str k,.str w,.int p]) (aC ai e ps c T pl h++aq) .exc (aC ai e ps c' T pl h++aq)
inductive TL (ai bH:Bool):Co->ak->Int->List V->Option (Co×ak×Int)->Prop
 |stop {c:Co} {T:ak} {pl:Int}:cT T bH=none->TL ai bH c T pl [] (some (c,T,pl))
 |go {c c1:Co} {T k:ak} {pl:Int} {n:Nat} {aM es:List V} {r:Option (Co×ak×Int)}:cT T bH=some (k,n)->iO ai c k (aw ((aa T).take n)) pl (some (aM,c1))->TL ai bH c1 (aw ((aa T).drop n)) (pl+n) es r->TL ai bH c T pl (aM++es) r
 |exc {c:Co} {T k:ak} {pl:Int} {n:Nat}:cT T bH=some (k,n)->iO ai c k (aw ((aa T).take n)) pl none->TL ai bH c T pl [] none
noncomputable def TP (ai bH:Bool)(f:Nat)(p:V):List (ak×V):=[(sl "self",SR ai),(sl "is_last",.bool bH),(sl "found",.ref f),(sl "piece",p)]
abbrev uf (d:Nat)(ai bH:Bool)(f:Nat)(p:V):Fm:=fm xW (TP ai bH f p) d
abbrev VF (d:Nat)(ai bH:Bool)(f:Nat)(p:V):Jb:=.wh (uf d ai bH f p) (sR (dC xW).body).1 (sR (dC xW).body).2
noncomputable def DX (G:Nat->Option (Nat->List V->Mo V))(ai:Bool)(ps:List V)(h:ak)(jb:Jb)(σ:Sg)(aq:Sg)(es:List V)(A:Nat->An):Option (Co×ak×Int)->Prop
 |none=>∃aj,Ab ai ps aj/\bp aR (bJ G) jb σ .exc aj
 |some q=>∃e' more j',bp aR (bJ G) jb σ (.ok (A (bX ai+j'))) (aC ai e' ps q.1 q.2.1 q.2.2 h++(aq++more))/\ay (aq++more) j'=some (.list es)/\mN ai q.1 e' (aq++more)
theorem QZ (hG:G 0=some (fM aR cG 840 fU))(hd:20<=d)(bS:dj ps=true):∀{c} {T} {pl} {es} {r},TL ai bH c T pl es r->sm T ->
 ∀(e:Nat) (aq:Sg) (aA:List V) (j:Nat),mN ai c e aq->ay aq j=some (.list aA)->aA.length+es.length<=50000 ->
 DX G ai ps h (VF d ai bH (bX ai+j) (lF T pl (cT T bH))) (lC ai e ps c T pl h (cT T bH)++aq) aq (aA++es) (λf=>.f .next (uf d ai bH f .none)) r:=by
 intro c T pl es r tl;induction tl with
 |@stop c T pl ht =>
  intro hT e aq aA j he hj hl;refine(ik e [] j ?_ (by rw[di,di];exact hj) (by rw[di];exact he));rw[ht,di];clear he;induction ai<;>exact aK 60 [.go,.b false] (λz=>ae (aH false) z)
 |@go c c1 T k pl n aM es r ht hc tl ih =>
  intro hT e aq aA j he hj hl;rw[bk]at hl;rw[ht];have Om:sm (aw ((aa T).drop n)):=by show((aa T).drop n).length<=4096;unfold sm at hT;rw[nN];exact bC (yO (aa T).length n) hT
  refine dG (hc G hG ps (aw ((aa T).drop n)) (pl+n) h e aq d bS hd he) ?_;rintro e1 m1 i ev hi tj;have FJ:ay (aC ai e1 ps c1 (aw ((aa T).drop n)) (pl+n) h++(aq++m1)) (bX ai+j)=some (.list aA):=by
   rw[tU,dB (bK hj)];exact hj
  have ha:=add_list FJ hi (by lia);have fY:(aC ai e1 ps c1 (aw ((aa T).drop n)) (pl+n) h++(aq++m1)).length=bX ai+(aq++m1).length:=by rw[bk,oQ]
  have tk:=Kn (G:=G) (ai:=ai) (e:=e1) (ps:=ps) (c:=c1) (T:=aw ((aa T).drop n)) (h:=h) (pl:=pl+n) (aq:=aq++m1++[.list (aA++aM)]) (d:=d-4) (bH:=bH) Om;rw[show d-4+4=d by lia]at tk;obtain ih:= ih Om e1 (aq++m1++[.list (aA++aM)]) (aA++aM) (aq++m1).length tj.app (cV _ _) (by rw[bk];lia);rw[fY,bM (aC ai e1 ps c1 (aw ((aa T).drop n)) (pl+n) h)]at ha;clear tl;induction r with
  |none =>
   refine aO ih ?_;clear ih;rintro aj bad jx;refine(aP aj bad ?_);induction ai with
   |false=>exact aK 60 [.go,.b true,.a (.ok (.ref i)) (aC false e1 ps c1 (aw ((aa T).drop n)) (pl+n) h++(aq++m1)),.a (.ok (.ref (bX false+(aq++m1).length))) (aC false e1 ps c1 (aw ((aa T).drop n)) (pl+n) h++(aq++m1++[.list (aA++aM)])),.a (.ok (lF (aw ((aa T).drop n)) (pl+n) (cT (aw ((aa T).drop n)) bH))) (lC false e1 ps c1 (aw ((aa T).drop n)) (pl+n) h (cT (aw ((aa T).drop n)) bH)++(aq++m1++[.list (aA++aM)])),.j .exc aj] (λz=>ae (aH true) (ae ev (ae ha (ae tk (ae jx z)))))
   |true=>exact aK 60 [.go,.b true,.a (.ok (.ref i)) (aC true e1 ps c1 (aw ((aa T).drop n)) (pl+n) h++(aq++m1)),.a (.ok (.ref (bX true+(aq++m1).length))) (aC true e1 ps c1 (aw ((aa T).drop n)) (pl+n) h++(aq++m1++[.list (aA++aM)])),.a (.ok (lF (aw ((aa T).drop n)) (pl+n) (cT (aw ((aa T).drop n)) bH))) (lC true e1 ps c1 (aw ((aa T).drop n)) (pl+n) h (cT (aw ((aa T).drop n)) bH)++(aq++m1++[.list (aA++aM)])),.j .exc aj] (λz=>ae (aH true) (ae ev (ae ha (ae tk (ae jx z)))))
  |some q =>
   refine dG ih ?_;clear ih;rintro e' more j' jx fF fO;rw[show aq++m1++[O.list (aA++aM)]++more=aq++(m1++[O.list (aA++aM)]++more) by simp]at jx fF fO;refine(ik e' (m1++[.list (aA++aM)]++more) j' ?_ (by rw[<- bM aA];exact fF) fO);induction ai with
   |false=>exact aK 60 [.go,.b true,.a (.ok (.ref i)) (aC false e1 ps c1 (aw ((aa T).drop n)) (pl+n) h++(aq++m1)),.a (.ok (.ref (bX false+(aq++m1).length))) (aC false e1 ps c1 (aw ((aa T).drop n)) (pl+n) h++(aq++m1++[.list (aA++aM)])),.a (.ok (lF (aw ((aa T).drop n)) (pl+n) (cT (aw ((aa T).drop n)) bH))) (lC false e1 ps c1 (aw ((aa T).drop n)) (pl+n) h (cT (aw ((aa T).drop n)) bH)++(aq++m1++[.list (aA++aM)])),.j (.ok (.f .next (uf d false bH (bX false+j') .none))) (aC false e' ps q.1 q.2.1 q.2.2 h++(aq++(m1++[.list (aA++aM)]++more)))] (λz=>ae (aH true) (ae ev (ae ha (ae tk (ae jx z)))))
   |true=>exact aK 60 [.go,.b true,.a (.ok (.ref i)) (aC true e1 ps c1 (aw ((aa T).drop n)) (pl+n) h++(aq++m1)),.a (.ok (.ref (bX true+(aq++m1).length))) (aC true e1 ps c1 (aw ((aa T).drop n)) (pl+n) h++(aq++m1++[.list (aA++aM)])),.a (.ok (lF (aw ((aa T).drop n)) (pl+n) (cT (aw ((aa T).drop n)) bH))) (lC true e1 ps c1 (aw ((aa T).drop n)) (pl+n) h (cT (aw ((aa T).drop n)) bH)++(aq++m1++[.list (aA++aM)])),.j (.ok (.f .next (uf d true bH (bX true+j') .none))) (aC true e' ps q.1 q.2.1 q.2.2 h++(aq++(m1++[.list (aA++aM)]++more)))] (λz=>ae (aH true) (ae ev (ae ha (ae tk (ae jx z)))))
 |@exc c T k pl n ht hc =>
  intro hT e aq aA j he hj hl;rw[ht];refine oE (hc G hG ps (aw ((aa T).drop n)) (pl+n) h e aq d bS hd he) ?_;rintro c' ev;refine⟨aC ai e ps c' (aw ((aa T).drop n)) (pl+n) h++aq,(C3 _ _ _ _ _ _ rfl),?_⟩;clear hc he;induction ai with
  |false=>exact aK 60 [.go,.b true,.a .exc (aC false e ps c' (aw ((aa T).drop n)) (pl+n) h++aq)] (λz=>ae (aH true) (ae ev z))
  |true=>exact aK 60 [.go,.b true,.a .exc (aC true e ps c' (aw ((aa T).drop n)) (pl+n) h++aq)] (λz=>ae (aH true) (ae ev z))
theorem JK (hG:G 0=some (fM aR cG 840 fU))(hd:20<=d)(bS:dj ps=true)(tl:TL ai bH c T pl es r)(hT:sm T)(e:Nat)(aq:Sg)(he:mN ai c e aq)(hl:es.length<=50000):DX G ai ps h (.ca (d+1) (.fn 833) [SR ai,.bool bH]) (aC ai e ps c T pl h++aq) aq es (λf=>.v (.ref f)) r:=by
 have tk:=Kn (G:=G) (ai:=ai) (e:=e) (ps:=ps) (c:=c) (T:=T) (h:=h) (pl:=pl) (aq:=aq++[.list []]) (d:=d-4) (bH:=bH) hT;rw[show d-4+4=d by lia]at tk;have lp:=QZ hG hd bS (h:=h) tl hT e (aq++[.list []]) [] aq.length he.app (cV _ _) (by simpa using hl);have e0:bX ai+aq.length=(aC ai e ps c T pl h++aq).length:=by rw[bk,oQ]
 induction r with
 |none =>
  refine aO lp ?_;clear lp;rintro aj bad ev;refine(aP aj bad ?_);rw[e0]at ev;induction ai with
  |false=>exact aK 60 [.go,.a (.ok (lF T pl (cT T bH))) (lC false e ps c T pl h (cT T bH)++(aq++[.list []])),.j .exc aj] (λz=>ae tk (ae ev z))
  |true=>exact aK 60 [.go,.a (.ok (lF T pl (cT T bH))) (lC true e ps c T pl h (cT T bH)++(aq++[.list []])),.j .exc aj] (λz=>ae tk (ae ev z))
 |some q =>
  refine dG lp ?_;clear lp;rintro e' more j' ev fF fO;rw[bM]at ev fF fO;refine(ik e' ([.list []]++more) j' ?_ fF fO);rw[e0]at ev;clear e0 he fO tl;induction ai with
  |false=>exact aK 60 [.go,.a (.ok (lF T pl (cT T bH))) (lC false e ps c T pl h (cT T bH)++(aq++[.list []])),.j (.ok (.f .next (uf d false bH (bX false+j') .none))) (aC false e' ps q.1 q.2.1 q.2.2 h++(aq++([.list []]++more)))] (λz=>ae tk (ae ev z))
  |true=>exact aK 60 [.go,.a (.ok (lF T pl (cT T bH))) (lC true e ps c T pl h (cT T bH)++(aq++[.list []])),.j (.ok (.f .next (uf d true bH (bX true+j') .none))) (aC true e' ps q.1 q.2.1 q.2.2 h++(aq++([.list []]++more)))] (λz=>ae tk (ae ev z))
variable {G:Nat->Option (Nat->List V->Mo V)}
theorem qn (h1:ay σ i=some (.list l))(h2:ay σ j=some (.list r))(h:pK l r=some b):fZ .NotEq (.ref i) (.ref j) σ=some (.ok (!b),σ):=by
 obtain e:fZ .NotEq (.ref i) (.ref j)=bd (bd (gt (listAt i)) λl=>bd (gt (listAt j)) λr=>aX (pK l r)) λr=>rt (!r):=rfl;obtain e1: listAt i σ=some l:=by unfold listAt;rw[h1]
 obtain e2: listAt j σ=some r:=by unfold listAt;rw[h2]
 rw[e];unfold bd gt;rw[e1];dsimp only;rw[e2];dsimp only;rw[h];rfl
theorem JR (hG:G 0=some (fM aR cG 840 fU))(hd:20<=d)(bS:dj ps=true)(hT:sm T)(hp:(aa h).length+(aa part).length<=4000)(mK:sm (aw (aa T++nl (fD (aa h++aa part)))))(tl:TL ai false c (aw (aa T++nl (fD (aa h++aa part)))) pl es r)(e:Nat)(aq:Sg)(he:mN ai c e aq)(hl:es.length<=50000):DX G ai ps (aw (eg (aa h++aa part))) (.ca (d+2) (.fn 819) [SR ai,.str part]) (aC ai e ps c T pl h++aq) aq es (λf=>.v (.ref f)) r:=by
 refine fE (RK (G:=G) (ai:=ai) (e:=e) (ps:=ps) (c:=c) (T:=T) (h:=h) (pl:=pl) (aq:=aq) (d:=d-1) (part:=part) hT hp) ?_;rintro l1 l2 f1;rw[show d-1+2=d+1 by lia]at f1;obtain tt:= JK hG hd bS (h:=aw (eg (aa h++aa part))) tl mK e (aq++[.list l1,.list l2]) he.app hl;induction r with
 |none =>
  refine aO tt ?_;rintro aj bad ev;refine(aP aj bad ?_);induction ai with
  |false=>exact aK 60 [.go,.a (.ok .none) (aC false e ps c (aw (aa T++nl (fD (aa h++aa part)))) pl (aw (eg (aa h++aa part)))++(aq++[.list l1,.list l2])),.a .exc aj] (λz=>ae f1 (ae ev z))
  |true=>exact aK 60 [.go,.a (.ok .none) (aC true e ps c (aw (aa T++nl (fD (aa h++aa part)))) pl (aw (eg (aa h++aa part)))++(aq++[.list l1,.list l2])),.a .exc aj] (λz=>ae f1 (ae ev z))
 |some q =>
  refine dG tt ?_;clear tt;rintro e' more j' ev fF fO;rw[bM]at ev fF fO;refine(ik e' ([.list l1,.list l2]++more) j' ?_ fF fO);clear he fO tl;induction ai with
  |false=>exact aK 60 [.go,.a (.ok .none) (aC false e ps c (aw (aa T++nl (fD (aa h++aa part)))) pl (aw (eg (aa h++aa part)))++(aq++[.list l1,.list l2])),.a (.ok (.ref (bX false+j'))) (aC false e' ps q.1 q.2.1 q.2.2 (aw (eg (aa h++aa part)))++(aq++([.list l1,.list l2]++more)))] (λz=>ae f1 (ae ev z))
  |true=>exact aK 60 [.go,.a (.ok .none) (aC true e ps c (aw (aa T++nl (fD (aa h++aa part)))) pl (aw (eg (aa h++aa part)))++(aq++[.list l1,.list l2])),.a (.ok (.ref (bX true+j'))) (aC true e' ps q.1 q.2.1 q.2.2 (aw (eg (aa h++aa part)))++(aq++([.list l1,.list l2]++more)))] (λz=>ae f1 (ae ev z))
noncomputable def NR (ai:Bool):Nat:=match ai with
 |false=>21
 |true=>19
theorem Rb:ay (aC ai e ps c T pl h++aq) (NR ai)=some (.list c.names):=by induction ai<;>rfl
set_option tactic.hygienic true in
theorem Ro {c:Co}(h:c.i8≠2):c.names=[]:=by
 obtain⟨st,hd,sz⟩:=c;revert h;exact match st with
 | 0=>λZ=>rfl
 | 1=>λZ=>rfl
 | 2=>λh=>absurd rfl h
 |_+3=>λZ=>rfl
noncomputable def uL (es:List V)(r:Option (Co×ak×Int)):Option (List V×Co):=match r with
 |none=>none
 |some q=>(match bx q.1.i8 3 with
  |true=>some (es,q.1)
  |false=>none)
noncomputable def Uu (G:Nat->Option (Nat->List V->Mo V))(ai:Bool)(ps:List V)(jb:Jb)(σ:Sg)(aq:Sg):Option (List V×Co)->Prop
 |none=>∃aj,Ab ai ps aj/\bp aR (bJ G) jb σ .exc aj
 |some q=>∃e' T' nL h' more j',bp aR (bJ G) jb σ (.ok (.v (.ref (bX ai+j')))) (aC ai e' ps q.2 T' nL h'++(aq++more))/\ay (aq++more) j'=some (.list q.1)
theorem RD (hG:G 0=some (fM aR cG 840 fU))(hd:20<=d)(bS:dj ps=true)(hT:sm T)(hp:(aa h).length<=4000)(mK:sm (aw (aa T++nl (aa h))))(tl:TL ai true c (aw (aa T++nl (aa h))) pl es r)(e:Nat)(aq:Sg)(he:mN ai c e aq)(hl:es.length<=50000):Uu G ai ps (.ca (d+2) (.fn 826) [SR ai]) (aC ai e ps c T pl h++aq) aq (uL es r):=by
 refine fE (T3 (G:=G) (ai:=ai) (e:=e) (ps:=ps) (c:=c) (T:=T) (h:=h) (pl:=pl) (aq:=aq) (d:=d-1) hT hp) ?_;rintro l1 l2 f1;rw[show d-1+2=d+1 by lia]at f1;obtain tt:= JK hG hd bS (h:=aw []) tl mK e (aq++[.list l1,.list l2]) he.app hl;induction r with
 |none =>
  refine aO tt ?_;clear tt;rintro aj bad ev;refine(aP aj bad ?_);clear bad he tl;induction ai with
  |false=>exact aK 60 [.go,.a (.ok .none) (aC false e ps c (aw (aa T++nl (aa h))) pl (aw [])++(aq++[.list l1,.list l2])),.a .exc aj] (λz=>ae f1 (ae ev z))
  |true=>exact aK 60 [.go,.a (.ok .none) (aC true e ps c (aw (aa T++nl (aa h))) pl (aw [])++(aq++[.list l1,.list l2])),.a .exc aj] (λz=>ae f1 (ae ev z))
 |some q =>
  refine dG tt ?_;clear tt;rintro e' more j' ev fF fO;rw[bM]at ev fF;have n0:ay (aC ai e' ps q.1 q.2.1 q.2.2 (aw [])++(aq++([.list l1,.list l2]++more))++[.list []]) (NR ai)=some (.list q.1.names):=by
   rw[bM];exact Rb
  have n1:=cV (aC ai e' ps q.1 q.2.1 q.2.2 (aw [])++(aq++([.list l1,.list l2]++more))) (O.list []);have as:aC ai e' ps q.1 q.2.1 q.2.2 (aw [])++(aq++([.list l1,.list l2]++more))++[O.list []]=aC ai e' ps q.1 q.2.1 q.2.2 (aw [])++(aq++([.list l1,.list l2]++more++[.list []])):=by simp
  unfold uL;dsimp only;by_cases h2:q.1.i8=2
  ·-- an element open
   obtain b3: bx q.1.i8 3=false:=by rw[h2];rfl
   rw[b3];have nm:q.1.names=[.str (sl "a")]:=by unfold Co.names;rw[h2];rfl
   rw[nm]at n0;have q1:=qn n0 n1 (b:=false) rfl;obtain it: iu (.ref (NR ai)) (.int (-1)) (aC ai e' ps q.1 q.2.1 q.2.2 (aw [])++(aq++([.list l1,.list l2]++more))++[.list []])=some (.ok (.str (sl "a")),aC ai e' ps q.1 q.2.1 q.2.2 (aw [])++(aq++([.list l1,.list l2]++more))++[.list []]):=by
    show bd (gt (listAt (NR ai))) (λl=>aX ((place (-1) l.length).bind (ay l))) _=_;unfold bd gt listAt;rw[n0];rfl
   obtain s1:= add_str (a:=sl "the element ") (b:=sl "a") (aC ai e' ps q.1 q.2.1 q.2.2 (aw [])++(aq++([.list l1,.list l2]++more))++[.list []]) (by decide);obtain s2:= add_str (a:=sl "the element a") (b:=sl " has no end") (aC ai e' ps q.1 q.2.1 q.2.2 (aw [])++(aq++([.list l1,.list l2]++more))++[.list []]) (by decide);refine⟨aC ai e' ps q.1 q.2.1 q.2.2 (aw [])++(aq++([.list l1,.list l2]++more))++[.list []],(C3 _ _ _ _ _ _ as),?_⟩;clear as he fO n0 n1 tl;induction ai with
   |false=>exact aK 60 [.go,.a (.ok .none) (aC false e ps c (aw (aa T++nl (aa h))) pl (aw [])++(aq++[.list l1,.list l2])),.a (.ok (.ref (bX false+j'))) (aC false e' ps q.1 q.2.1 q.2.2 (aw [])++(aq++([.list l1,.list l2]++more))),.b true,.b true,.o (.str (sl "a")),.o (.str (sl "the element a")),.o (.str (sl "the element a has no end"))] (λz=>ae f1 (ae ev (ae q1 (ae (aH true) (ae it (ae s1 (ae s2 z)))))))
   |true=>exact aK 60 [.go,.a (.ok .none) (aC true e ps c (aw (aa T++nl (aa h))) pl (aw [])++(aq++[.list l1,.list l2])),.a (.ok (.ref (bX true+j'))) (aC true e' ps q.1 q.2.1 q.2.2 (aw [])++(aq++([.list l1,.list l2]++more))),.b true,.b true,.o (.str (sl "a")),.o (.str (sl "the element a")),.o (.str (sl "the element a has no end"))] (λz=>ae f1 (ae ev (ae q1 (ae (aH true) (ae it (ae s1 (ae s2 z)))))))
  ·rw[Ro h2]at n0;have q1:=qn n0 n1 (b:=true) rfl;induction b3:bx q.1.i8 3 with
   |true =>
    have c3:(!decide ((q.1.i8:Int)=3))=false:=by rw[eS b3];rfl
    refine⟨e',q.2.1,q.2.2,aw [],[.list l1,.list l2]++more++[.list []],j',?_,?_⟩
    ·clear he fO n0 n1 tl;induction ai with
     |false=>exact aK 60 [.go,.a (.ok .none) (aC false e ps c (aw (aa T++nl (aa h))) pl (aw [])++(aq++[.list l1,.list l2])),.a (.ok (.ref (bX false+j'))) (aC false e' ps q.1 q.2.1 q.2.2 (aw [])++(aq++([.list l1,.list l2]++more))),.b false,.b false,.b false] (λz=>ae f1 (ae ev (ae q1 (ae (aH false) (ae c3 (ae z.1 as))))))
     |true=>exact aK 60 [.go,.a (.ok .none) (aC true e ps c (aw (aa T++nl (aa h))) pl (aw [])++(aq++[.list l1,.list l2])),.a (.ok (.ref (bX true+j'))) (aC true e' ps q.1 q.2.1 q.2.2 (aw [])++(aq++([.list l1,.list l2]++more))),.b false,.b false,.b false] (λz=>ae f1 (ae ev (ae q1 (ae (aH false) (ae c3 (ae z.1 as))))))
    ·rw[<- bM aq,dB (bK fF)];exact fF
   |false =>
    have c3:(!decide ((q.1.i8:Int)=3))=true:=by
     obtain af:= vd b3;rw[decide_eq_false (by lia)];rfl
    refine⟨aC ai e' ps q.1 q.2.1 q.2.2 (aw [])++(aq++([.list l1,.list l2]++more))++[.list []],(C3 _ _ _ _ _ _ as),?_⟩;clear as he fO n0 n1 tl;induction ai with
    |false=>exact aK 60 [.go,.a (.ok .none) (aC false e ps c (aw (aa T++nl (aa h))) pl (aw [])++(aq++[.list l1,.list l2])),.a (.ok (.ref (bX false+j'))) (aC false e' ps q.1 q.2.1 q.2.2 (aw [])++(aq++([.list l1,.list l2]++more))),.b false,.b false,.b true] (λz=>ae f1 (ae ev (ae q1 (ae (aH false) (ae c3 z)))))
    |true=>exact aK 60 [.go,.a (.ok .none) (aC true e ps c (aw (aa T++nl (aa h))) pl (aw [])++(aq++[.list l1,.list l2])),.a (.ok (.ref (bX true+j'))) (aC true e' ps q.1 q.2.1 q.2.2 (aw [])++(aq++([.list l1,.list l2]++more))),.b false,.b false,.b true] (λz=>ae f1 (ae ev (ae q1 (ae (aH false) (ae c3 z)))))
variable {G:Nat->Option (Nat->List V->Mo V)}
noncomputable def DQ:List bO->List bO
 |s::r=>sD s (DQ r) (zU:=λb Z Z Z Z=>b)
 |[]=>[]
abbrev bN (l:List ak):List V:=l.map .str
inductive q9 (ai:Bool):Co->ak->Int->ak->List ak->List V->Option (Co×ak×Int×ak)->Prop
 |nil {c:Co} {T:ak} {pl:Int} {h:ak}:q9 ai c T pl h [] [] (some (c,T,pl,h))
 |cons {c c1:Co} {T T1:ak} {pl kq:Int} {h p:ak} {ps:List ak} {es fu:List V} {r:Option (Co×ak×Int×ak)}:sm T->(aa h).length+(aa p).length<=4000->sm (aw (aa T++nl (fD (aa h++aa p))))->es.length<=1000 ->
  TL ai false c (aw (aa T++nl (fD (aa h++aa p)))) pl es (some (c1,T1,kq))->q9 ai c1 T1 kq (aw (eg (aa h++aa p))) ps fu r->q9 ai c T pl h (p::ps) (es++fu) r
 |exc {c:Co} {T:ak} {pl:Int} {h p:ak} {ps:List ak} {es:List V}:sm T->(aa h).length+(aa p).length<=4000->sm (aw (aa T++nl (fD (aa h++aa p))))->es.length<=1000 ->
  TL ai false c (aw (aa T++nl (fD (aa h++aa p)))) pl es none->q9 ai c T pl h (p::ps) [] none
noncomputable def UB (ai:Bool)(f:Nat)(tl:List (ak×V)):List (ak×V):=[(sl "parts",.ref 0),(sl "doctypes",.ref 1),(sl "is_late",.bool ai),(sl "table",.ref 5),(sl "stream",SR ai),(sl "found",.ref f)]++tl
abbrev mz (d:Nat)(ai:Bool)(f:Nat)(tl:List (ak×V)):Fm:=fm yt (UB ai f tl) d
abbrev Ma (d k:Nat)(ai:Bool)(f:Nat)(tl:List (ak×V)):Jb:=.fo (mz d ai f tl) (lG (DQ (dC yt).body)).1 (.list 0 k) (lG (DQ (dC yt).body)).2
noncomputable def Mu (tl:List (ak×V)):Prop:=tl=[]\/∃v,tl=[(sl "part",v)]
theorem v5 (h:ay σ i=some (.list l))(hv:ay l k=some v):fB (.list i k) σ=some (some (v,.list i (k+1))):=by
 show(match listAt i σ with
  |some l=>(match ay l k with
   |some v=>some (some (v,It.list i (k+1)))
   |none=>some none)
  |none=>none)=_
 obtain af: listAt i σ=some l:=by unfold listAt;rw[h]
 rw[af];dsimp only;rw[hv]
theorem y7 (h:ay σ i=some (.list l))(hv:ay l k=none):fB (.list i k) σ=some none:=by
 show(match listAt i σ with
  |some l=>(match ay l k with
   |some v=>some (some (v,It.list i (k+1)))
   |none=>some none)
  |none=>none)=_
 obtain af: listAt i σ=some l:=by unfold listAt;rw[h]
 rw[af];dsimp only;rw[hv]
theorem vP:∀{l r} {k} {a:α},l.drop k=a::r->ay l k=some a
 |x::l,r,0,a,h=>by cases h;rfl
 |x::l,r,k+1,a,h=>vP (l:=l) h
 |[],r,k,a,h=>by rw[BR]at h;exact nC gq h rfl
theorem vL:∀{l:List α} {k},l.drop k=[]->ay l k=none
 |x::l,0,h=>by exact nC gq h rfl
 |x::l,k+1,h=>vL (l:=l) h
 |[],k,h=>by clear h;induction k using eO<;>rfl
theorem vR:ay (aC ai e ps c T pl h++aq) 0=some (.list ps):=by induction ai<;>rfl
noncomputable def Lp (G:Nat->Option (Nat->List V->Mo V))(ai:Bool)(ps:List V)(jb:Jb)(σ:Sg)(aq:Sg)(es:List V)(d:Nat):Option (Co×ak×Int×ak)->Prop
 |none=>∃aj,Ab ai ps aj/\bp aR (bJ G) jb σ .exc aj
 |some q=>∃e' more j' fN,bp aR (bJ G) jb σ (.ok (.f .next (mz (d+2) ai (bX ai+j') fN))) (aC ai e' ps q.1 q.2.1 q.2.2.1 q.2.2.2++(aq++more))/\ay (aq++more) j'=some (.list es)/\mN ai q.1 e' (aq++more)/\Mu fN/\es.length<=50000
theorem RH (hG:G 0=some (fM aR cG 840 fU))(hd:20<=d)(bS:dj ps=true):∀{c} {T} {pl} {h} {parts} {es} {r},q9 ai c T pl h parts es r ->
 ∀(e:Nat) (aq:Sg) (aA:List V) (j k:Nat) (tl:List (ak×V)),mN ai c e aq->ay aq j=some (.list aA)->ps.drop k=bN parts->aA.length+1000*parts.length<=50000->Mu tl ->
 Lp G ai ps (Ma (d+2) k ai (bX ai+j) tl) (aC ai e ps c T pl h++aq) aq (aA++es) d r:=by
 intro c T pl h parts es r fl;induction fl with
 |@nil c T pl h =>
  intro e aq aA j k tl he hj hk hl ht;obtain hn:=vL hk;have nx:=y7 (σ:=aC ai e ps c T pl h++aq) vR hn;refine(oP e [] j tl ?_ (by rw[di,di];exact hj) (by rw[di];exact he) ht (by rw[di];lia));rw[di];focus(refine aG ht ?_ (kE ?_);rintro rfl;rotate_left;rintro v rfl;rotate_left)<;>induction ai<;>exact aK 60 [.go,.n none] (λz=>ae nx z)
 |@cons c c1 T T1 pl kq h p parts es fu r hT hp mK mJ tt fl ih =>
  intro e aq aA j k tl he hj hk hl ht;rw[dJ]at hl;obtain hn:=vP hk;have nx:=v5 (σ:=aC ai e ps c T pl h++aq) vR hn;obtain gc: ps.drop (k+1)=bN parts:=by
   rw[<- tJ,hk];rfl
  refine dG (JR hG hd bS hT hp mK tt e aq he (by lia)) ?_;rintro e1 more j1 ev FJ tj;have h1:ay (aC ai e1 ps c1 T1 kq (aw (eg (aa h++aa p)))++(aq++more)) (bX ai+j)=some (.list aA):=by
   rw[tU,dB (bK hj)];exact hj
  have h2:ay (aC ai e1 ps c1 T1 kq (aw (eg (aa h++aa p)))++(aq++more)) (bX ai+j1)=some (.list es):=by
   rw[tU];exact FJ
  have ha:=add_list h1 h2 (by lia);have fY:(aC ai e1 ps c1 T1 kq (aw (eg (aa h++aa p)))++(aq++more)).length=bX ai+(aq++more).length:=by rw[bk,oQ]
  rw[fY,bM (aC ai e1 ps c1 T1 kq (aw (eg (aa h++aa p))))]at ha;obtain ih:= ih e1 (aq++more++[.list (aA++es)]) (aA++es) (aq++more).length (k+1) [(sl "part",.str p)] tj.app (cV _ _) gc (by rw[bk];lia) (.inr ⟨_,rfl⟩);induction r with
  |none =>
   refine aO ih ?_;clear ih;rintro aj bad jx;refine(aP aj bad ?_);focus(refine aG ht ?_ (kE ?_);rintro rfl;rotate_left;clear ht;rintro v rfl;rotate_left)<;>induction ai with
   |false=>exact aK 60 [.go,.n (some (.str p,.list 0 (k+1))),.a (.ok (.ref (bX false+j1))) (aC false e1 ps c1 T1 kq (aw (eg (aa h++aa p)))++(aq++more)),.a (.ok (.ref (bX false+(aq++more).length))) (aC false e1 ps c1 T1 kq (aw (eg (aa h++aa p)))++(aq++more++[.list (aA++es)])),.j .exc aj] (λz=>ae nx (ae ev (ae ha (ae jx z))))
   |true=>exact aK 60 [.go,.n (some (.str p,.list 0 (k+1))),.a (.ok (.ref (bX true+j1))) (aC true e1 ps c1 T1 kq (aw (eg (aa h++aa p)))++(aq++more)),.a (.ok (.ref (bX true+(aq++more).length))) (aC true e1 ps c1 T1 kq (aw (eg (aa h++aa p)))++(aq++more++[.list (aA++es)])),.j .exc aj] (λz=>ae nx (ae ev (ae ha (ae jx z))))
  |some q =>
   refine jU ih ?_;rintro e' fW j' fN jx fF fO pG uA;rw[show aq++more++[O.list (aA++es)]++fW=aq++(more++[O.list (aA++es)]++fW) by simp]at jx fF fO;refine(oP e' (more++[.list (aA++es)]++fW) j' fN ?_ (by rw[<- bM aA];exact fF) fO pG (by rw[<- bM aA];exact uA));focus(refine aG ht ?_ (kE ?_);rintro rfl;rotate_left;clear ht;rintro v rfl;rotate_left)<;>induction ai with
   |false=>exact aK 60 [.go,.n (some (.str p,.list 0 (k+1))),.a (.ok (.ref (bX false+j1))) (aC false e1 ps c1 T1 kq (aw (eg (aa h++aa p)))++(aq++more)),.a (.ok (.ref (bX false+(aq++more).length))) (aC false e1 ps c1 T1 kq (aw (eg (aa h++aa p)))++(aq++more++[.list (aA++es)])),.j (.ok (.f .next (mz (d+2) false (bX false+j') fN))) (aC false e' ps q.1 q.2.1 q.2.2.1 q.2.2.2++(aq++(more++[.list (aA++es)]++fW)))] (λz=>ae nx (ae ev (ae ha (ae jx z))))
   |true=>exact aK 60 [.go,.n (some (.str p,.list 0 (k+1))),.a (.ok (.ref (bX true+j1))) (aC true e1 ps c1 T1 kq (aw (eg (aa h++aa p)))++(aq++more)),.a (.ok (.ref (bX true+(aq++more).length))) (aC true e1 ps c1 T1 kq (aw (eg (aa h++aa p)))++(aq++more++[.list (aA++es)])),.j (.ok (.f .next (mz (d+2) true (bX true+j') fN))) (aC true e' ps q.1 q.2.1 q.2.2.1 q.2.2.2++(aq++(more++[.list (aA++es)]++fW)))] (λz=>ae nx (ae ev (ae ha (ae jx z))))
 |@exc c T pl h p parts es hT hp mK mJ tt =>
  intro e aq aA j k tl he hj hk hl ht;obtain hn:=vP hk;have nx:=v5 (σ:=aC ai e ps c T pl h++aq) vR hn;refine aO (JR hG hd bS hT hp mK tt e aq he (by lia)) ?_;rintro aj bad ev;refine(aP aj bad ?_);focus(refine aG ht ?_ (kE ?_);rintro rfl;rotate_left;clear ht;rintro v rfl;rotate_left)<;>induction ai<;>exact aK 60 [.go,.n (some (.str p,.list 0 (k+1))),.a .exc aj] (λz=>ae nx (ae ev z))
noncomputable def ng (ai:Bool)(parts:List ak)(res:Option (List V×Co)):Prop:=parts.length<=40/\∃es r,q9 ai ⟨0,false,0⟩ (sl "") 0 (sl "") parts es r/\match r with
 |none=>res=none
 |some q=>sm q.2.1/\(aa q.2.2.2).length<=4000/\sm (aw (aa q.2.1++nl (aa q.2.2.2)))/\∃kW r2,kW.length<=1000/\TL ai true q.1 (aw (aa q.2.1++nl (aa q.2.2.2))) q.2.2.1 kW r2/\res=(uL kW r2).map λq=>(es++q.1,q.2)
theorem R6 (hG:G 0=some (fM aR cG 840 fU))(hd:20<=d)(hn:parts.length<=40)(fl:q9 ai ⟨0,false,0⟩ (sl "") 0 (sl "") parts es r)(bS:dj (bN parts)=true):Lp G ai (bN parts) (Ma (d+2) 0 ai (bX ai) []) (aC ai 0 (bN parts) ⟨0,false,0⟩ (sl "") 0 (sl "")++[.list []]) [] es d r:=by
 obtain lp:= RH hG hd bS fl 0 [.list []] [] 0 0 [] (λZ h=>by exact fT h) rfl rfl (by simp;lia) (.inl rfl);induction r with
 |none=>exact lp
 |some q =>
  refine jU lp ?_;clear lp;rintro e' more j' fN ev fF fO pG uA;exact(oP e' _ j' fN ev fF fO pG uA)
theorem Sk:bp aR (bJ G) (.ca (d+4) (.fn 962) [.ref 5,.bool false,.str (sl "e"),.str (sl "<b>z</b>w")]) ((aC false 0 ps ⟨0,false,0⟩ (sl "") 0 (sl "")).take 7++[.dict [],.dict []]) (.ok (.v (.bool true))) ((aC false 0 ps ⟨0,false,0⟩ (sl "") 0 (sl "")).take 11):=bp.of (n:=60) (by kernel_rfl)
theorem Um (ai:Bool):bp aR (bJ G) (.ca (d+1) (.fn 1086) [.ref 5,.ref 1]) ((aC ai 0 ps ⟨0,false,0⟩ (sl "") 0 (sl "")).take (match ai with|false=>11|true=>9)) (.ok (.v (.ref (match ai with|false=>13|true=>11)))) ((aC ai 0 ps ⟨0,false,0⟩ (sl "") 0 (sl "")).take (match ai with|false=>14|true=>12)):=by
 induction ai
 ·exact bp.of (n:=3) (by kernel_rfl)
 ·exact bp.of (n:=3) (by kernel_rfl)
noncomputable def lK:Nat->Option (Nat->List V->Mo V):=λn=>match n with
 | 0=>some (fM aR cG 840 fU)
 |_=>none
theorem KD {ai:Bool}{d:Nat}{parts:List ak}{res:Option (List V×Co)}(ok:ng ai parts res)(bS:dj (bN parts)=true) :
 match (generalizing:=false) res with
 |some (es,c')=>∃e' T' nL h' more,bp aR (bJ lK) (.ca (d+23) (.fn 1093) [.ref 0,.ref 1,.bool ai]) [.list (bN parts),.list []] (.ok (.v (.ref (bX ai+more.length)))) (aC ai e' (bN parts) c' T' nL h'++(more++[.list es]))
 |none=>∃aj,Ab ai (bN parts) aj/\bp aR (bJ lK) (.ca (d+23) (.fn 1093) [.ref 0,.ref 1,.bool ai]) [.list (bN parts),.list []] (.ok (.v .none)) aj:=by
 refine iq ok ?_;clear ok;rintro hn es r fl h;have lp:=R6 (G:=lK) rfl (d:=d+20) (cJ _ _) hn fl bS;have m1:=Um (G:=lK) ai (d:=d+21) (ps:=bN parts);have m2:=Sk (G:=lK) (d:=d+18) (ps:=bN parts);induction r with
 |none =>
  dsimp only at h;subst h;refine aO lp ?_;clear lp;rintro aj bad ev;refine(aP aj bad ?_);clear bad fl;induction ai with
  |true=>exact aK 60 [.go,.go,.go,.b true,.b false,.a (.ok (.ref 11)) ((aC true 0 (bN parts) ⟨0,false,0⟩ (sl "") 0 (sl "")).take 12),.go,.go,.go,.go,.j .exc aj] (λz=>ae (aH true) (ae (aH false) (ae m1 (ae ev z))))
  |false=>exact aK 60 [.go,.go,.go,.b true,.b true,.a (.ok (.bool true)) ((aC false 0 (bN parts) ⟨0,false,0⟩ (sl "") 0 (sl "")).take 11),.a (.ok (.ref 13)) ((aC false 0 (bN parts) ⟨0,false,0⟩ (sl "") 0 (sl "")).take 14),.go,.go,.go,.go,.j .exc aj] (λz=>ae (aH true) (ae (aH true) (ae m2 (ae m1 (ae ev z)))))
 |some w =>
  refine Su h ?_;clear h;rintro hT YA mK kW r2 aap tl og;refine jU lp ?_;clear lp;rintro e' more j' fN ev fF fO pG uA;have cl:=RD (G:=lK) rfl (d:=d+20) (cJ _ _) bS hT YA mK tl e' more fO (by lia);induction hc:uL kW r2 with
  |none =>
   rw[hc]at cl og;obtain rfl:=og;refine aO cl ?_;clear cl;rintro aj bad cl;refine(aP aj bad ?_);refine aG pG ?_ (kE ?_)
   ·clear pG;rintro rfl;induction ai with
    |true=>exact aK 60 [.go,.go,.go,.b true,.b false,.a (.ok (.ref 11)) ((aC true 0 (bN parts) ⟨0,false,0⟩ (sl "") 0 (sl "")).take 12),.go,.go,.go,.go,.j (.ok (.f .next (mz (d+22) true (bX true+j') []))) (aC true e' (bN parts) w.1 w.2.1 w.2.2.1 w.2.2.2++more),.a .exc aj] (λz=>ae (aH true) (ae (aH false) (ae m1 (ae ev (ae cl z)))))
    |false=>exact aK 60 [.go,.go,.go,.b true,.b true,.a (.ok (.bool true)) ((aC false 0 (bN parts) ⟨0,false,0⟩ (sl "") 0 (sl "")).take 11),.a (.ok (.ref 13)) ((aC false 0 (bN parts) ⟨0,false,0⟩ (sl "") 0 (sl "")).take 14),.go,.go,.go,.go,.j (.ok (.f .next (mz (d+22) false (bX false+j') []))) (aC false e' (bN parts) w.1 w.2.1 w.2.2.1 w.2.2.2++more),.a .exc aj] (λz=>ae (aH true) (ae (aH true) (ae m2 (ae m1 (ae ev (ae cl z))))))
   ·rintro v rfl;clear bad fl fO tl;induction ai with
    |true=>exact aK 60 [.go,.go,.go,.b true,.b false,.a (.ok (.ref 11)) ((aC true 0 (bN parts) ⟨0,false,0⟩ (sl "") 0 (sl "")).take 12),.go,.go,.go,.go,.j (.ok (.f .next (mz (d+22) true (bX true+j') [(sl "part",v)]))) (aC true e' (bN parts) w.1 w.2.1 w.2.2.1 w.2.2.2++more),.a .exc aj] (λz=>ae (aH true) (ae (aH false) (ae m1 (ae ev (ae cl z)))))
    |false=>exact aK 60 [.go,.go,.go,.b true,.b true,.a (.ok (.bool true)) ((aC false 0 (bN parts) ⟨0,false,0⟩ (sl "") 0 (sl "")).take 11),.a (.ok (.ref 13)) ((aC false 0 (bN parts) ⟨0,false,0⟩ (sl "") 0 (sl "")).take 14),.go,.go,.go,.go,.j (.ok (.f .next (mz (d+22) false (bX false+j') [(sl "part",v)]))) (aC false e' (bN parts) w.1 w.2.1 w.2.2.1 w.2.2.2++more),.a .exc aj] (λz=>ae (aH true) (ae (aH true) (ae m2 (ae m1 (ae ev (ae cl z))))))
  |some q =>
   obtain⟨fu,c'⟩:=q;rw[hc]at cl og;obtain rfl:=og;refine RQ cl ?_;clear cl;rintro e2 T2 k9 h2 fW j2 cl GY;obtain Xs: fu=kW:=by
    unfold uL at hc;split at hc
    ·exact nS hc
    ·split at hc
     ·(revert cl GY;refine dX hc ?_;intro cl GY);rfl
     ·exact nS hc
   have a1:ay (aC ai e2 (bN parts) c' T2 k9 h2++(more++fW)) (bX ai+j')=some (.list es):=by
    rw[tU,dB (bK fF)];exact fF
   have a2:ay (aC ai e2 (bN parts) c' T2 k9 h2++(more++fW)) (bX ai+j2)=some (.list fu):=by
    rw[tU];exact GY
   have ha:=add_list a1 a2 (by rw[Xs];lia);have fY:(aC ai e2 (bN parts) c' T2 k9 h2++(more++fW)).length=bX ai+(more++fW).length:=by rw[bk,oQ]
   rw[fY,bM (aC ai e2 (bN parts) c' T2 k9 h2)]at ha;refine⟨e2,T2,k9,h2,more++fW,?_⟩;refine aG pG ?_ (kE ?_)
   ·rintro rfl;induction ai with
    |true=>exact aK 60 [.go,.go,.go,.b true,.b false,.a (.ok (.ref 11)) ((aC true 0 (bN parts) ⟨0,false,0⟩ (sl "") 0 (sl "")).take 12),.go,.go,.go,.go,.j (.ok (.f .next (mz (d+22) true (bX true+j') []))) (aC true e' (bN parts) w.1 w.2.1 w.2.2.1 w.2.2.2++more),.a (.ok (.ref (bX true+j2))) (aC true e2 (bN parts) c' T2 k9 h2++(more++fW)),.a (.ok (.ref (bX true+(more++fW).length))) (aC true e2 (bN parts) c' T2 k9 h2++(more++fW++[.list (es++fu)]))] (λz=>ae (aH true) (ae (aH false) (ae m1 (ae ev (ae cl (ae ha z))))))
    |false=>exact aK 60 [.go,.go,.go,.b true,.b true,.a (.ok (.bool true)) ((aC false 0 (bN parts) ⟨0,false,0⟩ (sl "") 0 (sl "")).take 11),.a (.ok (.ref 13)) ((aC false 0 (bN parts) ⟨0,false,0⟩ (sl "") 0 (sl "")).take 14),.go,.go,.go,.go,.j (.ok (.f .next (mz (d+22) false (bX false+j') []))) (aC false e' (bN parts) w.1 w.2.1 w.2.2.1 w.2.2.2++more),.a (.ok (.ref (bX false+j2))) (aC false e2 (bN parts) c' T2 k9 h2++(more++fW)),.a (.ok (.ref (bX false+(more++fW).length))) (aC false e2 (bN parts) c' T2 k9 h2++(more++fW++[.list (es++fu)]))] (λz=>ae (aH true) (ae (aH true) (ae m2 (ae m1 (ae ev (ae cl (ae ha z)))))))
   ·rintro v rfl;induction ai with
    |true=>exact aK 60 [.go,.go,.go,.b true,.b false,.a (.ok (.ref 11)) ((aC true 0 (bN parts) ⟨0,false,0⟩ (sl "") 0 (sl "")).take 12),.go,.go,.go,.go,.j (.ok (.f .next (mz (d+22) true (bX true+j') [(sl "part",v)]))) (aC true e' (bN parts) w.1 w.2.1 w.2.2.1 w.2.2.2++more),.a (.ok (.ref (bX true+j2))) (aC true e2 (bN parts) c' T2 k9 h2++(more++fW)),.a (.ok (.ref (bX true+(more++fW).length))) (aC true e2 (bN parts) c' T2 k9 h2++(more++fW++[.list (es++fu)]))] (λz=>ae (aH true) (ae (aH false) (ae m1 (ae ev (ae cl (ae ha z))))))
    |false=>exact aK 60 [.go,.go,.go,.b true,.b true,.a (.ok (.bool true)) ((aC false 0 (bN parts) ⟨0,false,0⟩ (sl "") 0 (sl "")).take 11),.a (.ok (.ref 13)) ((aC false 0 (bN parts) ⟨0,false,0⟩ (sl "") 0 (sl "")).take 14),.go,.go,.go,.go,.j (.ok (.f .next (mz (d+22) false (bX false+j') [(sl "part",v)]))) (aC false e' (bN parts) w.1 w.2.1 w.2.2.1 w.2.2.2++more),.a (.ok (.ref (bX false+j2))) (aC false e2 (bN parts) c' T2 k9 h2++(more++fW)),.a (.ok (.ref (bX false+(more++fW).length))) (aC false e2 (bN parts) c' T2 k9 h2++(more++fW++[.list (es++fu)]))] (λz=>ae (aH true) (ae (aH true) (ae m2 (ae m1 (ae ev (ae cl (ae ha z)))))))
theorem gM:∀{l} {j} {b:α},j<l.length->ay (bG l j b) j=some b
 |_::_,0,_,_=>rfl
 |_::l,j+1,_,h=>gM (l:=l) (ry h)
theorem qf:∀{l} {i j} {b:α},i≠j->ay (bG l j b) i=ay l i
 |[],_,_,_,_=>rfl
 |_::_,0,0,_,h=>absurd rfl h
 |_::_,_+1,0,_,_=>rfl
 |_::_,0,_+1,_,_=>rfl
 |_::l,i+1,j+1,_,h=>qf (l:=l) (λe=>h (congrArg _ e))
noncomputable def rS:Nat->List V->Mo V:=λZ av σ=>match av with
 |[.ref i,.ref j,.bool ai]=>(match ay σ i with
  |some (.list ps)=>(match lim aR (bJ lK) (.ca 23 (.fn 1093) [.ref 0,.ref 1,.bool ai]) [.list ps,.list []] with
   |some (.ok (.v (.ref k)),τ)=>(match ay τ 1,ay τ k with
    |some (.list ds),some (.list es)=>some (.ok (.ref σ.length),bG σ j (.list ds)++[.list es])
    |_,_=>none)
   |some (.ok (.v .none),τ)=>(match ay τ 1 with
    |some (.list ds)=>some (.ok .none,bG σ j (.list ds))
    |_=>none)
   |_=>none)
  |_=>none)
 |_=>none
theorem KZ:ay (aC ai e ps c T pl h++aq) 1=some (.list c.jh):=by induction ai<;>rfl
theorem mS:∀(l:List ak),dj (bN l)=true
 |[]=>rfl
 |_::l=>mS l
noncomputable def xC (i j:Nat):Nat->Nat:=λx=>match x with
 | 0=>i
 |_=>j
theorem R1 (ok:ng ai parts (some (es,c)))(hi:ay σ i=some (.list (bN parts)))(hj:ay σ j=some (.list []))(kR:i≠j)(hd:23<=d)(mJ:dj es=true):fM aR (bJ lK) 1093 rS d [.ref i,.ref j,.bool ai] σ=some (.ok (.ref σ.length),bG σ j (.list c.jh)++[.list es]):=by
 refine U8 (KD (d:=0) ok (mS parts)) ?_;rintro e' T' nL h' more ev;obtain n0:=vR (ai:=ai) (e:=e') (ps:=bN parts) (c:=c) (T:=T') (h:=h') (pl:=nL) (aq:=more++[.list es]);obtain n1:=KZ (ai:=ai) (e:=e') (ps:=bN parts) (c:=c) (T:=T') (h:=h') (pl:=nL) (aq:=more++[.list es]);obtain nk:ay (aC ai e' (bN parts) c T' nL h'++(more++[.list es])) (bX ai+more.length)=some (.list es):=by rw[tU];exact cV _ _
 obtain hw: rS d [.ref i,.ref j,.bool ai] σ=some (.ok (.ref σ.length),bG σ j (.list c.jh)++[.list es]):=by
  unfold rS;dsimp only;rw[hi];dsimp only;rw[o6 ev];dsimp only;rw[n1,nk]
 refine oZ hw ?_;refine oE (bp.pz (r:=.ok (.ref (bX ai+more.length))) ev) ?_;rintro n hr;obtain li:=bK hi;obtain lj:=bK hj;generalize hK:bX ai+more.length=k0 at *;have M6:2<=k0:=by clear ev hr hw n0 n1 nk ok;induction ai<;>simp[bX]at hK<;>lia
 generalize pH:aC ai e' (bN parts) c T' nL h'++(more++[.list es])=τ at *;obtain J:=Cg (P:=aR) (Γ:=bJ lK) (a:=1093) (d:=d) (as:=[.ref 0,.ref 1,.bool ai]) (dm:=[.list (bN parts),.list []]) (σ:=σ) (aj:=bG σ j (.list c.jh)++[.list es]) (rs:=.ok (.ref k0)) (τ:=τ) 0 2 1 k0 (xC i j) hd hr rfl
  (λx hx=>by
   have af:x=0\/x=1:=by lia
   refine aG af ?_ ?_
   ·clear af;clear hx;rintro rfl;exact⟨fP _,li⟩
   ·clear af;clear hx;rintro rfl;exact⟨fP _,lj⟩)
  (λx y hx hy e=>by
   have af:x=0\/x=1:=by lia
   have af:y=0\/y=1:=by lia
   rcases ‹x=0\/x=1› with rfl|rfl<;>rcases ‹y=0\/y=1› with rfl|rfl
   ·rfl
   ·exact absurd e kR
   ·exact absurd e.symm kR
   ·rfl)
  (fP _) (M6)
  (by
   show(dq _ (bN parts)&&(true&&true))=true;rw[gP (mS parts)];rfl)
  rfl
  (λv hv=>by(refine dI hv ?_);show d6 0 2 k0 1 k0=true;unfold d6;simp[cE])
  (λx hx=>by
   unfold d6 at hx;rw[jk,cc]at hx;refine aG hx ?_ (kA ?_)
   ·clear hx;rintro hx;have hx:x<2:=eF.mp hx;have af:x=0\/x=1:=by lia
    refine aG af ?_ ?_
    ·clear hx;rintro rfl;exact(aP _ n0 (gP (mS parts)))
    ·clear hx;rintro rfl;exact(aP _ n1 (gP (tV c)))
   ·clear hx;rintro h1 h2;have h1:=dA h1;have h2:=eF.mp h2;(refine il (show x=k0 by exact xK h1 h2) ?_);exact(aP _ nk (gP mJ)))
  (λx o hx ho=>by
   have af:x=0\/x=1:=by lia
   refine aG af ?_ ?_
   ·clear af;rintro rfl;rw[jT,n0]at ho;(refine aT ho ?_);show ay _ i=some (O.list (eU _ _));rw[mW (mS parts),dB (by rw[kz];exact li),qf kR];exact hi
   ·clear af;rintro rfl;rw[rM,n1]at ho;(refine aT ho ?_);show ay _ j=some (O.list (eU _ _));rw[mW (tV c),dB (by rw[kz];exact lj),gM lj])
  (λx o ho=>by
   have hx:x<2:=bK ho;have af:x=0\/x=1:=by lia
   refine aG af ?_ ?_
   ·clear af;rintro rfl;(refine aT ho ?_);show ay σ i=some (O.list (eU _ _));rw[mW (mS parts)];exact hi
   ·clear af;rintro rfl;(refine aT ho ?_);exact hj)
  (λx o hx=>by lia)
  (λx h1 h2 h3=>by
   rw[dB (by rw[kz];exact h2),qf (λe:x=j=>h3 1 (by decide) e.symm)])
  (λx o hx ho=>by
   obtain rfl:x=0:=by exact BO.mp hx
   rw[jT,nk]at ho;(refine aT ho ?_);rw[jT];show _=some (O.list (eU _ _));rw[mW mJ];have af:=cV (bG σ j (O.list c.jh)) (O.list es);rw[kz]at af;exact af)
  (by rw[bk,kz];rfl)
 obtain e1:eU (cq 0 2 σ.length k0 (xC i j)) [.ref 0,.ref 1,.bool ai]=[.ref i,.ref j,.bool ai]:=rfl;obtain e2: qL (cq 0 2 σ.length k0 (xC i j)) (.ok (.ref k0))=.ok (.ref σ.length):=by
  show Rs.ok (V.ref (cq 0 2 σ.length k0 (xC i j) k0))=_;unfold cq;rw[if_neg (qb k0),if_neg (by exact d8.mpr M6),Nat.sub_self];rfl
 rw[e1,e2]at J;exact J
theorem RC (ok:ng ai parts none)(hi:ay σ i=some (.list (bN parts)))(hj:ay σ j=some (.list []))(kR:i≠j)(hd:23<=d):∃c:Co,fM aR (bJ lK) 1093 rS d [.ref i,.ref j,.bool ai] σ=some (.ok .none,bG σ j (.list c.jh)):=by
 refine aO (KD (d:=0) ok (mS parts)) ?_;rintro τ ⟨e',c,T',nL,h',more,pH⟩ ev;refine⟨c,?_⟩;obtain n0:=vR (ai:=ai) (e:=e') (ps:=bN parts) (c:=c) (T:=T') (h:=h') (pl:=nL) (aq:=more);obtain n1:=KZ (ai:=ai) (e:=e') (ps:=bN parts) (c:=c) (T:=T') (h:=h') (pl:=nL) (aq:=more);rw[<- pH]at n0 n1;obtain hw: rS d [.ref i,.ref j,.bool ai] σ=some (.ok .none,bG σ j (.list c.jh)):=by
  unfold rS;dsimp only;rw[hi];dsimp only;rw[o6 ev];dsimp only;rw[n1]
 refine oZ hw ?_;refine oE (bp.pz (r:=.ok .none) ev) ?_;rintro n hr;obtain li:= bK hi;obtain lj:=bK hj;obtain J:=Cg (P:=aR) (Γ:=bJ lK) (a:=1093) (d:=d) (as:=[.ref 0,.ref 1,.bool ai]) (dm:=[.list (bN parts),.list []]) (σ:=σ) (aj:=bG σ j (.list c.jh)) (rs:=.ok .none) (τ:=τ) 0 2 0 2 (xC i j) hd hr rfl
  (λx hx=>by
   have af:x=0\/x=1:=by lia
   refine aG af ?_ ?_
   ·clear af;clear hx;rintro rfl;exact⟨fP _,li⟩
   ·clear af;clear hx;rintro rfl;exact⟨fP _,lj⟩)
  (λx y hx hy e=>by
   have af:x=0\/x=1:=by lia
   have af:y=0\/y=1:=by lia
   rcases ‹x=0\/x=1› with rfl|rfl<;>rcases ‹y=0\/y=1› with rfl|rfl
   ·rfl
   ·exact absurd e kR
   ·exact absurd e.symm kR
   ·rfl)
  (fP _) ((bc (0+2)))
  (by
   show(dq _ (bN parts)&&(true&&true))=true;rw[gP (mS parts)];rfl)
  rfl
  (λv hv=>by(refine dI hv ?_);rfl)
  (λx hx=>by
   unfold d6 at hx;rw[jk,cc]at hx;refine aG hx ?_ (kA ?_)
   ·clear hx;rintro hx;have hx:x<2:=eF.mp hx;have af:x=0\/x=1:=by lia
    refine aG af ?_ ?_
    ·clear hx;rintro rfl;exact(aP _ n0 (gP (mS parts)))
    ·clear hx;rintro rfl;exact(aP _ n1 (gP (tV c)))
   ·rintro h1 h2;obtain h1:= dA h1;obtain h2:= eF.mp h2;lia)
  (λx o hx ho=>by
   have af:x=0\/x=1:=by lia
   refine aG af ?_ ?_
   ·clear af;rintro rfl;rw[jT,n0]at ho;(refine aT ho ?_);show ay _ i=some (O.list (eU _ _));rw[mW (mS parts),qf kR];exact hi
   ·clear af;rintro rfl;rw[rM,n1]at ho;(refine aT ho ?_);show ay _ j=some (O.list (eU _ _));rw[mW (tV c),gM lj])
  (λx o ho=>by
   have hx:x<2:=bK ho;have af:x=0\/x=1:=by lia
   refine aG af ?_ ?_
   ·clear af;rintro rfl;(refine aT ho ?_);show ay σ i=some (O.list (eU _ _));rw[mW (mS parts)];exact hi
   ·clear af;rintro rfl;(refine aT ho ?_);exact hj)
  (λx o hx=>by lia)
  (λx h1 h2 h3=>by
   rw[qf (λe:x=j=>h3 1 (by decide) e.symm)])
  (λx o hx ho=>by lia)
  (by rw[kz];rfl)
 exact J
noncomputable def EO (x:Option (Rs An×Sg)):Option (Nat×Sg):=match x with
 |some q=>(match q.1 with
  |.ok a=>(match a with
   |.v v=>(match v with
    |.ref k=>some (k,q.2)
    |_=>none)
   |_=>none)
  |.exc=>none)
 |none=>none
theorem I2 (h:EO x=some (k,τ)):x=some (.ok (.v (.ref k)),τ):=by
 induction x with
 |none=>exact nS h
 |some q =>
  obtain⟨r,t⟩:=q;induction r with
  |exc=>exact nS h
  |ok a =>
   induction a using An.casesOn with
   |v v =>
    induction v using V.casesOn with
    |ref i=>exact dX h rfl
    |_=>exact nS h
   |_=>exact nS h
noncomputable def obs (n:Nat)(x:Option (Rs An×Sg)):Option (List V×List O):=(EO x).bind λq=>(listAt q.1 q.2).bind λl=>match fG n q.1 with
 |true=>some (l,q.2.take n)
 |false=>none
theorem HQ (h:listAt i σ=some l):ay σ i=some (.list l):=by
 unfold listAt at h;induction hn:ay σ i with
 |none=>rw[hn]at h;exact nS h
 |some o =>
  rw[hn]at h;clear hn;induction o using O.casesOn with
  |list m=>exact aT (motive:=λl=>some (O.list m)=some (O.list l)) h rfl
  |_=>exact nS h
theorem ij (h:obs n (run P Γ m j σ)=some (l,t)):∃k τ,bp P Γ j σ (.ok (.v (.ref k))) τ/\ay τ k=some (.list l)/\τ.take n=t/\n<=k:=by
 refine aO (lV.mp h) ?_;rintro⟨k,τ⟩ h1 h;refine aO (lV.mp h) ?_;rintro l' h2 h;induction hb:fG n k with
 |false =>
  have h:=h;rw[hb]at h;exact nS h
 |true =>
  obtain h:=h;rw[hb]at h;(refine dX h ?_);exact(dp k τ (bp.of (I2 h1)) (HQ h2) rfl (dA hb))
noncomputable def bs (ai:Bool)(ps:List V)(st sz:Nat)(T:ak)(pl:Int)(h:ak):Sg:=match ai with
 |false=>cN ps ⟨st,false,sz⟩ T pl h
 |true=>k6 ps ⟨st,true,sz⟩ T pl h
noncomputable def hV (ai:Bool)(st sz:Nat)(k w:ak)(p:Int)(aM:List V)(bD cb:Nat):Prop:=∀ps T pl h,dj ps=true->∃j τ,bp aR cG (.ca 20 (.fn 840) [SR ai,.str k,.str w,.int p]) (bs ai ps st sz T pl h) (.ok (.v (.ref j))) τ/\ay τ j=some (.list aM)/\τ.take 24=bs ai ps bD cb T pl h/\24<=j
theorem hV.call (A:hV ai st sz k w p aM bD cb)(eo:dj aM=true):iO ai ⟨st,ai,sz⟩ k w p (some (aM,⟨bD,ai,cb⟩)):=by
 intro G hG ps T pl h e aq d bS hd he;refine dT (A ps T pl h bS) ?_;rintro j τ ev hj ht k7;clear A;induction ai with
 |false =>
  obtain af:= ZG ev ht hj k7 bS eo hd aq;refine(ik e ([.list aM]) (24+aq.length) ?_ ?_ (λh=>by exact fT h))
  ·rw[<- bM];exact oU (P:=aR) (Γ:=bJ G) (a:=840) (show bJ G 840=_ from hG) af
  ·rw[<- bM,show 24+aq.length=(aC false e ps ⟨bD,false,cb⟩ T pl h++aq).length by rw[bk,oQ];rfl];exact cV _ _
 |true =>
  obtain he:=he rfl rfl;obtain af:= WZ ev ht hj k7 bS eo hd aq he;refine(ik e ([.list aM]) (22+aq.length) ?_ ?_ (λZ Z=>he.app))
  ·rw[<- bM];exact oU (P:=aR) (Γ:=bJ G) (a:=840) (show bJ G 840=_ from hG) af
  ·rw[<- bM,show 22+aq.length=(aC true e ps ⟨bD,true,cb⟩ T pl h++aq).length by rw[bk,oQ];rfl];exact cV _ _
noncomputable def AE (ai:Bool)(st sz:Nat)(k w:ak)(p:Int):Prop:=∀ps T pl h,dj ps=true->∃τ,bp aR cG (.ca 20 (.fn 840) [SR ai,.str k,.str w,.int p]) (bs ai ps st sz T pl h) .exc τ/\τ.take 24=bs ai ps st sz T pl h
theorem AE.call (A:AE ai st sz k w p):iO ai ⟨st,ai,sz⟩ k w p none:=by
 intro G hG ps T pl h e aq d bS hd he;refine aO (A ps T pl h bS) ?_;rintro τ ev ht;refine⟨⟨st,ai,sz⟩,?_⟩;clear A;induction ai with
 |false=>exact oU (P:=aR) (Γ:=bJ G) (a:=840) (r:=.exc) (show bJ G 840=_ from hG) (XY ev ht bS hd aq)
 |true=>exact oU (P:=aR) (Γ:=bJ G) (a:=840) (r:=.exc) (show bJ G 840=_ from hG) (VA ev ht bS hd aq (he rfl rfl))
theorem VL (A:∀ps T pl h,obs 22 (run aR cG 200 (.ca 20 (.fn 840) [SR true,.str k,.str w,.int p]) (aV 0 ps ⟨st,false,sz⟩ T pl h))=some (aM,aV 0 ps ⟨bD,false,cb⟩ T pl h))(eo:dj aM=true):iO true ⟨st,false,sz⟩ k w p (some (aM,⟨bD,false,cb⟩)):=by
 intro G hG ps T pl h e aq d bS hd he;refine dT (ij (A ps T pl h)) ?_;rintro j τ ev hj ht k7;have af:=XG (e:=e) ev ht hj k7 bS eo hd aq;refine(ik e ([.list aM]) (22+aq.length) ?_ ?_ (λZ h=>by exact fT h))
 ·rw[<- bM];exact oU (P:=aR) (Γ:=bJ G) (a:=840) (show bJ G 840=_ from hG) af
 ·rw[<- bM,show 22+aq.length=(aC true e ps ⟨bD,false,cb⟩ T pl h++aq).length by rw[bk,oQ];rfl];exact cV _ _
theorem Uw (A:∀ps T pl h,∃τ,bp aR cG (.ca 20 (.fn 840) [SR true,.str k,.str w,.int p]) (aV 0 ps ⟨st,false,sz⟩ T pl h) .exc τ/\τ.take 22=aV 0 ps ⟨st,false,sz⟩ T pl h):iO true ⟨st,false,sz⟩ k w p none:=by
 intro G hG ps T pl h e aq d bS hd he;refine aO (A ps T pl h) ?_;rintro τ ev ht;exact⟨⟨st,false,sz⟩,oU (P:=aR) (Γ:=bJ G) (a:=840) (r:=.exc) (show bJ G 840=_ from hG) (Wi (e:=e) ev ht bS hd aq)⟩
noncomputable def XA (x:Option (Rs An×Sg)):Option (List V×List O×Option O×Option O):=(EO x).bind λq=>(listAt q.1 q.2).bind λl=>match bx q.1 26 with
 |true=>some (l,q.2.take 22,ay q.2 24,ay q.2 25)
 |false=>none
theorem Lr (A:∀ps T pl h,XA (run aR cG 200 (.ca 20 (.fn 840) [SR true,.str k,.str w,.int p]) (aV 0 ps ⟨st,false,sz⟩ T pl h))=some (aM,aV 25 ps ⟨bD,true,cb⟩ T pl h,some gz,some (.inst 921 24)))(eo:dj aM=true):iO true ⟨st,false,sz⟩ k w p (some (aM,⟨bD,true,cb⟩)):=by
 intro G hG ps T pl h e aq d bS hd he;obtain A:= A ps T pl h;refine aO (lV.mp A) ?_;clear A;rintro⟨k2,τ⟩ hr A;refine aO (lV.mp A) ?_;clear A;rintro l' hk A;obtain hr:= I2 hr;obtain hk:= HQ hk;induction hb:bx k2 26 with
 |false =>
  have A:=A;rw[hb]at A;exact nS A
 |true =>
  obtain A:=A;rw[hb]at A
  ·obtain rfl:=eS hb;injection A with A
   injection A with h1 A
   injection A with h2 A
   injection A with h3 h4
   clear A;subst h1;have af:=Xo (e:=e) (bp.of hr) h2 h3 h4 hk bS eo hd aq;refine(ik (22+aq.length+1) ([gz,.inst 921 (22+aq.length),.list l']) (22+aq.length+2) ?_ ?_ (λZ Z=>n8.new))
   ·rw[<- bM];exact oU (P:=aR) (Γ:=bJ G) (a:=840) (show bJ G 840=_ from hG) af
   ·have af:=eE (l:=aC true (22+aq.length+1) ps ⟨bD,true,cb⟩ T pl h++aq) (r:=[gz,.inst 921 (22+aq.length),.list l']) (i:=2);rw[bk,oQ,bM]at af;exact af
noncomputable def kh (c:Nat):Bool:=bx c 112||(bx c 93||(bx c 113||(bx c 10||(bx c 62||bx c 114))))
theorem JE:kh c=true↔c=112\/c=93\/c=113\/c=10\/c=62\/c=114:=by
 unfold kh;simp only[jk,Nat.beq_eq]
theorem P5 (h:kh c=true):bp aR cG (.ca (d+3) (.fn 63) [.str (ch c)]) σ (.ok (.v (.bool true))) σ:=by
 rcases JE.mp h with rfl|rfl|rfl|rfl|rfl|rfl<;>exact bp.of (n:=60) (by kernel_rfl)
noncomputable def wm (t:ak)(p:Int)(a:Option Nat):List (ak×V):=match a with
 |none=>[(sl "text",.str t),(sl "place",.int p)]
 |some a=>[(sl "text",.str t),(sl "place",.int p),(sl "at",.int a)]
abbrev YL (d:Nat)(t:ak)(p:Int)(a:Option Nat)(k:Nat):Jb:=.fo (fm qa (wm t p a) d) (lG (dC qa).body).1 (.cm k (aa t).length) (lG (dC qa).body).2
theorem Kf (h:sm t)(hc:∀c∈aa t,kh c=true):∀(n k:Nat) (a:Option Nat),(aa t).length=k+n ->
 ∃a',bp aR cG (YL (d+3) t p a k) σ (.ok (.f .next (fm qa (wm t p a') (d+3)))) σ
 | 0,k,a,hn=>by
  refine⟨a,?_⟩;have c1:fB (.cm k (aa t).length) σ=some none:=by
   show(if ((k:Nat):Int)<((aa t).length:Int) then _ else some none)=_;rw[if_neg (by lia)]
  induction a<;>exact aK 40 [.go,.n none] (λz=>ae c1 z)
 |n+1,k,a,hn=>by
  induction hd:(aa t).drop k using aQ with
  |nil=>have af:=rz.mp hd;lia
  |cons c r =>
   refine oA (rQ hd) ?_;rintro e1 e2;obtain uO:=hc c (List.mem_of_mem_drop (i:=k) (by rw[hd];exact fJ));have c1:fB (.cm k (aa t).length) σ=some (some (.int k,.cm (k+1) (aa t).length)):=by
    show(if ((k:Nat):Int)<((aa t).length:Int) then _ else some none)=_;rw[if_pos (by lia)]
   refine oE (Kf (d:=d) (p:=p) (σ:=σ) h hc n (k+1) (some k) (by lia)) ?_;rintro a' ev;refine⟨a',?_⟩;have ec:=P5 (d:=d) (σ:=σ) uO;induction a<;>exact aK 40 [.go,.n (some (.int k,.cm (k+1) (aa t).length)),.o (.str (ch c)),.a (.ok (.bool true)) σ,.b false,.j (.ok (.f .next (fm qa (wm t p a') (d+3)))) σ] (λz=>ae c1 (ae (iZ σ h e1) (ae ec (ae (aH false) (ae ev z)))))
theorem IV (h:sm t)(hc:∀c∈aa t,kh c=true):bp aR cG (.ca (d+4) (.fn 603) [.str t,.int p]) σ (.ok (.v .none)) σ:=by
 obtain r1:(0:Int)<=((aa t).length:Int)/\((aa t).length:Int)<=16777216:=by unfold sm at h;lia
 refine oE (Kf (d:=d) (p:=p) (σ:=σ) h hc (aa t).length 0 none (by lia)) ?_;rintro a' ev;induction a' with
 |none=>exact aK 40 [.go,.o (.int (aa t).length),.j (.ok (.f .next (fm qa (wm t p none) (d+3)))) σ] (λz=>ae (dW σ h) (ae r1 (ae ev z)))
 |some x=>exact aK 40 [.go,.o (.int (aa t).length),.j (.ok (.f .next (fm qa (wm t p (some x)) (d+3)))) σ] (λz=>ae (dW σ h) (ae r1 (ae ev z)))
noncomputable def sY (l:List Nat):Bool:=match fz [93,93,62] 0 l with
 |some _=>true
 |none=>false
theorem IS {t:ak}:decide (iQ t (sl "]]>") 0>=0)=sY (aa t):=by
 obtain hs: iQ t (sl "]]>") 0=(match fG 0 (aa t).length with
  |true=>(match fz [93,93,62] 0 ((aa t).drop 0) with|some i=>lq i|none=>-1)
  |false=>-1):=rfl
 rw[hs,show fG 0 (aa t).length=true from lg (fP _),rK];unfold sY;skip;induction fz [93,93,62] 0 (aa t) with
 |none=>rfl
 |some i=>exact decide_eq_true (rD i)
theorem Sm (h:sm t)(hc:∀c∈aa t,kh c=true)(ho:sY (aa t)=false):bp aR cG (.ca (d+5) (.fn 727) [.str t,.int p]) σ (.ok (.v .none)) σ:=by
 obtain c1:=IS (t:=t);rw[ho]at c1;exact aK 40 [.go,.a (.ok .none) σ,.b false] (λz=>ae (IV (d:=d) (p:=p) (σ:=σ) h hc) (ae c1 z))
theorem P1 (h:sm t)(hc:∀c∈aa t,kh c=true)(ho:sY (aa t)=true):bp aR cG (.ca (d+5) (.fn 727) [.str t,.int p]) σ .exc σ:=by
 obtain c1:=IS (t:=t);rw[ho]at c1;exact aK 40 [.go,.a (.ok .none) σ,.b true] (λz=>ae (IV (d:=d) (p:=p) (σ:=σ) h hc) (ae c1 z))
theorem Td (h1:ay σ i=some (.list l))(h2:ay σ j=some (.list r))(h:pK l r=some b):fZ .Eq (.ref i) (.ref j) σ=some (.ok b,σ):=by
 obtain e:fZ .Eq (.ref i) (.ref j)=bd (gt (listAt i)) λl=>bd (gt (listAt j)) λr=>aX (pK l r):=rfl;obtain e1: listAt i σ=some l:=by unfold listAt;rw[h1]
 obtain e2: listAt j σ=some r:=by unfold listAt;rw[h2]
 rw[e];unfold bd gt;rw[e1];dsimp only;rw[e2];dsimp only;rw[h];rfl
theorem Tf (ai:Bool)(sz:Nat)(p:Int)(h:sm w)(hc:∀c∈aa w,kh c=true)(ho:sY (aa w)=false):hV ai 2 sz (sl "text") w p [.tup [.str (sl "text"),.str w]] 2 sz:=by
 intro ps T pl hh _;refine(dp 24 (bs ai ps 2 sz T pl hh++[.list [.tup [.str (sl "text"),.str w]]]++[.list []]) ?_ (by induction ai<;>rfl) (by induction ai<;>rfl) (bc _));obtain q: fZ .Eq (.ref (match ai with|false=>21|true=>19)) (.ref 25) (bs ai ps 2 sz T pl hh++[.list [.tup [.str (sl "text"),.str w]]]++[.list []])=some (.ok false,bs ai ps 2 sz T pl hh++[.list [.tup [.str (sl "text"),.str w]]]++[.list []]):=by
  induction ai<;>exact Td (l:=[.str (sl "a")]) (r:=[]) rfl rfl rfl
 obtain s:=Sm (d:=13) (p:=0) (σ:=bs ai ps 2 sz T pl hh) h hc ho;induction ai with
 |false=>exact aK 100 [.go,.b false,.b true,.go,.b true,.a (.ok .none) (bs false ps 2 sz T pl hh),.b false,.b false] (λz=>ae (aH false) (ae (aH true) (ae (aH true) (ae s (ae q (ae (aH false) z))))))
 |true=>exact aK 100 [.go,.b false,.b true,.go,.b true,.a (.ok .none) (bs true ps 2 sz T pl hh),.b false,.b false] (λz=>ae (aH false) (ae (aH true) (ae (aH true) (ae s (ae q (ae (aH false) z))))))
theorem QC (ai:Bool)(sz:Nat)(p:Int)(h:sm w)(hc:∀c∈aa w,kh c=true)(ho:sY (aa w)=true):AE ai 2 sz (sl "text") w p:=by
 intro ps T pl hh _;refine(aP (bs ai ps 2 sz T pl hh) ?_ (by induction ai<;>rfl));obtain s:=P1 (d:=13) (p:=0) (σ:=bs ai ps 2 sz T pl hh) h hc ho;induction ai with
 |false=>exact aK 100 [.go,.b false,.b true,.go,.b true,.a .exc (bs false ps 2 sz T pl hh)] (λz=>ae (aH false) (ae (aH true) (ae (aH true) (ae s z))))
 |true=>exact aK 100 [.go,.b false,.b true,.go,.b true,.a .exc (bs true ps 2 sz T pl hh)] (λz=>ae (aH false) (ae (aH true) (ae (aH true) (ae s z))))
theorem IJ (ai:Bool)(st sz:Nat)(p:Int)(w:ak):AE ai st sz (sl "wrong") w p:=by
 intro ps T pl hh _;refine(aP (bs ai ps st sz T pl hh) ?_ (by induction ai<;>rfl));induction ai<;>exact aK 40 [.go,.b true] (λz=>ae (aH true) z)
theorem QT (st sz:Nat)(p:Int)(w:ak):iO true ⟨st,false,sz⟩ (sl "wrong") w p none:=Uw λps T pl h =>
 (aP (aV 0 ps ⟨st,false,sz⟩ T pl h) (aK 40 [.go,.b true] (λz=>ae (aH true) z)) rfl)
theorem UP (ai:Bool)(sz:Nat)(p:Int):hV ai 3 sz (sl "text") (sl "\n") p [] 3 sz:=λps T pl h Z=>match p with
 |.ofNat 0=>ij (m:=200) (by induction ai<;>kernel_rfl)
 |.ofNat (n+1)=>ij (m:=200) (by induction ai<;>kernel_rfl)
 |.negSucc n=>ij (m:=200) (by induction ai<;>kernel_rfl)
inductive At where
 |tok (s:List Nat) (k:ak)
 |chr (c:Nat)
noncomputable def flat:List At->List Nat
 |[]=>[]
 |.tok s _::r=>s++flat r
 |.chr c::r=>c::flat r
abbrev chars (u:List Nat):List At:=u.map .chr
theorem HW:∀(u:List Nat) (A:List At),flat (chars u++A)=u++flat A
 |[],A=>rfl
 |c::u,A=>congrArg (c::·) (HW u A)
structure d9 (s:List Nat)(k:ak):Prop where
 all:∀X b,cT (aw (s++X)) b=some (k,s.length)
 hd:∃c r,s=c::r/\(c=60\/c=38)
 part:∀n,0<n->n<s.length->cT (aw (s.take n)) false=none/\cT (aw (s.take n)) true=some (sl "wrong",n)
theorem d9.mk' {s:List Nat}{k:ak}(h1:∀X b,cT (aw (s++X)) b=some (k,s.length))(h2:(match s with|c::_=>bx c 60||bx c 38|[]=>false)=true)
 (h3:(C8 s.length).all (λn=>bx n 0||((cT (aw (s.take n)) false).isNone&&(match cT (aw (s.take n)) true with|some (k,m)=>bg k (sl "wrong")&&bx m n|none=>false)))=true):d9 s k where
 all:=h1
 hd:=by
  induction s using aQ with
  |nil=>exact fT h2
  |cons c r =>
   refine(cF c r rfl ?_);dsimp only at h2;rw[jk]at h2;exact h2.imp eS eS
 part:=λn h0 hn=>by
  obtain af:= pZ.mp h3 n (List.mem_range.mpr hn);rw[jk,cc]at af;refine aG af ?_ (kA ?_)
  ·rintro h;exact absurd (eS h) (rN h0)
  ·rintro h4 h5;refine⟨A7.mp h4,?_⟩;induction h6:cT (aw (s.take n)) true with
   |none=>rw[h6]at h5;exact fT h5
   |some q =>
    obtain⟨k,m⟩:=q;rw[h6]at h5;dsimp only at h5;rw[cc]at h5;rw[eS h5.2,eh.mp h5.1]
noncomputable def AO (u:List Nat):Prop:=∀c∈u,c≠60/\c≠38
theorem XQ (h:c≠60/\c≠38):subIn [c] [60,38]=false:=by
 obtain e1: (c==60)=false:=beq_eq_false_iff_ne.mpr h.1;obtain e2: (c==38)=false:=beq_eq_false_iff_ne.mpr h.2;obtain e:subIn [c] [60,38]=(match (c==60&&true) with|true=>true|false=>match (c==38&&true) with|true=>true|false=>false):=by kernel_rfl
 rw[e,e1,e2];rfl
theorem Vo (h:c=60\/c=38):subIn [c] [60,38]=true:=by
 focus(refine aG h ?_ ?_;clear h;rintro rfl;rotate_left;clear h;rintro rfl;rotate_left)<;>rfl
theorem JH:∀(u X:List Nat) (n:Nat),AO u->(X=[]\/∃c r,X=c::r/\(c=60\/c=38))->bR (u++X) n=n+u.length
 |[],X,n,_,h=>by
  refine aG h ?_ (cK ?_)
  ·clear h;rintro rfl;rfl
  ·clear h;rintro c r rfl hc;show(match subIn [c] [60,38] with|true=>n|false=>_)=_;rw[Vo hc];rfl
 |c::u,X,n,hu,h=>by
  show(match subIn [c] [60,38] with|true=>n|false=>bR (u++X) (n+1))=_;rw[XQ (hu c fJ),JH u X (n+1) (λx hx=>hu x (jj _ hx)) h,dJ];show n+1+u.length=n+(u.length+1);lia
theorem RG (hu:AO u)(h0:u≠[])(hX:X=[]\/∃c r,X=c::r/\(c=60\/c=38)):cT (aw (u++X)) b=(match bx u.length (u++X).length&&!b with
 |true=>(match cE (dD (aw (u++X))) (u++X).length with
  |true=>some (sl "text",(u++X).length-dD (aw (u++X)))
  |false=>none)
 |false=>some (sl "text",u.length)):=by
 obtain ht:= JH u X 0 hu hX;rw[rM]at ht;obtain hb: cE 0 u.length=true:=rT.mpr (by clear ht hu;induction u using aQ with|nil=>exact absurd rfl h0|cons=>simp);induction u using aQ with
 |nil=>exact absurd rfl h0
 |cons c r =>
  obtain hc:=hu c fJ;obtain e1: bx c 60=false:=by
   induction q:bx c 60 with
   |false=>rfl
   |true=>exact absurd (eS q) hc.1
  obtain e2: bx c 38=false:=by
   induction q:bx c 38 with
   |false=>rfl
   |true=>exact absurd (eS q) hc.2
  show(match bx c 60 with
   |true=>_
   |false=>match bx c 38 with
    |true=>_
    |false=>(match bx (bR (c::r++X) 0) (c::r++X).length&&!b with
     |true=>(match cE (dD (aw (c::r++X))) (c::r++X).length with
      |true=>some (sl "text",(c::r++X).length-dD (aw (c::r++X)))
      |false=>none)
     |false=>(match cE 0 (bR (c::r++X) 0) with
      |true=>some (sl "text",bR (c::r++X) 0)
      |false=>none)))=_
  rw[e1,e2,ht];skip;rw[hb]
theorem tQ:jH (aw l) (aw w)=true↔∃p,l=p++w:=by
 show dh w.reverse l.reverse=true↔_;rw[rx];constructor
 ·rintro⟨t,ht⟩;refine⟨t.reverse,?_⟩;obtain af:= congrArg List.reverse ht;rw[List.reverse_append,List.reverse_reverse,List.reverse_reverse]at af;exact af.symm
 ·rintro⟨p,rfl⟩;exact⟨p.reverse,by rw[List.reverse_append]⟩
noncomputable def qQ (u:List Nat)(A:List At):Prop:=(∀p A',¬(u=p++[93]/\A=.chr 93::.chr 62::A'))/\(∀p A',¬(u=p++[93,93]/\A=.chr 62::A'))
theorem qQ.tail (h:qQ (c::u) A):qQ u A :=
 ⟨λp A' ⟨e1,e2⟩=>h.1 (c::p) A' ⟨by rw[e1];rfl,e2⟩,λp A' ⟨e1,e2⟩=>h.2 (c::p) A' ⟨by rw[e1];rfl,e2⟩⟩
theorem Ve (h:dD (aw u)=0)(A:List At):qQ u A:=by
 unfold dD at h;induction h1:jH (aw u) (aw [93,93]) with
 |true=>rw[h1]at h;cases h
 |false =>
  rw[h1]at h;dsimp only at h;induction h2:jH (aw u) (aw [93]) with
  |true=>rw[h2]at h;cases h
  |false =>
   refine⟨λp A' ⟨e,_⟩=>?_,λp A' ⟨e,_⟩=>?_⟩
   ·rw[tQ.mpr ⟨p,e⟩]at h2;exact tF h2
   ·rw[tQ.mpr ⟨p,e⟩]at h1;exact tF h1
theorem R4 (u:List Nat):∃u1 h,u=u1++h/\dD (aw u)=h.length/\∀A,qQ u1 (chars h++A):=by
 induction h0:dD (aw u) using eO with
 |zero=>exact(ey u [] (by simp) rfl (Ve h0))
 |succ n =>
  unfold dD at h0;induction h1:jH (aw u) (aw [93,93]) with
  |true =>
   rw[h1]at h0;refine oE (tQ.mp h1) ?_;rintro p rfl;refine(ey p ([93,93]) rfl h0.symm (λA=>⟨λq A' ⟨_,e⟩=>(by cases e),λq A' ⟨_,e⟩=>(by cases e)⟩))
  |false =>
   obtain n1: ¬ ∃p,u=p++[93,93]:=λh=>by rw[tQ.mpr h]at h1;exact tF h1
   rw[h1]at h0;dsimp only at h0;induction h2:jH (aw u) (aw [93]) with
   |true =>
    rw[h2]at h0;refine oE (tQ.mp h2) ?_;rintro p rfl;refine(ey p [93] rfl h0.symm (λA=>⟨λq A' ⟨e1,_⟩=>n1 ⟨q,by rw[e1];simp⟩,λq A' ⟨_,e⟩=>(by cases e)⟩))
   |false=>rw[h2]at h0;cases h0
noncomputable def pL:List Nat->Bool
 |[]=>false
 |c::r=>dh [93,93,62] (c::r)||pL r
theorem H4:∀(l:List Nat) (i:Nat),(match fz [93,93,62] i l with|some _=>true|none=>false)=pL l
 |[],i=>rfl
 |c::r,i=>by
  show(match (match dh [93,93,62] (c::r) with|true=>some i|false=>fz [93,93,62] (i+1) r) with|some _=>true|none=>false)=(dh [93,93,62] (c::r)||pL r);induction dh [93,93,62] (c::r) with
  |true=>rfl
  |false=>exact H4 r (i+1)
theorem occ_eq (l:List Nat):sY l=pL l:=H4 l 0
abbrev Fv:=V ⊕ Nat
noncomputable def xq (v:V):Option (ak×List V):=match v with
 |.tup l=>(match l with
  |[]=>none
  |a::r=>(je a).map λk=>(k,r))
 |_=>none
theorem CJ (h:xq v=some (k,r)):v=.tup (.str k::r):=by
 induction v using V.casesOn with
 |tup l =>
  induction l using aQ with
  |nil=>exact nS h
  |cons a l =>
   induction a using V.casesOn with
   |str s=>exact dX (motive:=λk r=>V.tup (.str s::l)=.tup (.str k::r)) h rfl
   |_=>exact nS h
 |_=>exact nS h
noncomputable def uT (r:List V):Option ak:=match r with
 |[]=>none
 |a::r=>(match r with
  |[]=>je a
  |_::_=>none)
theorem J2 (h:uT r=some w):r=[.str w]:=by
 induction r using aQ with
 |nil=>exact nS h
 |cons a r =>
  induction r using aQ with
  |nil =>
   induction a using V.casesOn with
   |str s=>exact aT (motive:=λw=>[V.str s]=[.str w]) h rfl
   |_=>exact nS h
  |cons=>exact nS h
noncomputable def iC (v:V):Option ak:=(xq v).bind λq=>match bg q.1 (sl "text") with
 |true=>uT q.2
 |false=>none
noncomputable def iV (v:V):List Fv:=match iC v with
 |some w=>(aa w).map .inr
 |none=>[.inl v]
noncomputable def fl:List V->List Fv
 |[]=>[]
 |v::r=>iV v++fl r
theorem jY:∀(a b:List V),fl (a++b)=fl a++fl b
 |[],b=>rfl
 |v::a,b=>by
  show iV v++fl (a++b)=_;rw[jY a b,<- bM];rfl
noncomputable def dH (v:V):Bool:=match xq v with
 |some q=>dj q.2&&(fG q.2.length 10&&match bg q.1 (sl "text") with
  |true=>(match uT q.2 with
   |some w=>(match aa w with|[]=>false|_::_=>true)
   |none=>false)
  |false=>true)
 |none=>false
theorem CT (h:dH v=true):∃k r,xq v=some (k,r)/\dj r=true/\fG r.length 10=true/\(bg k (sl "text")=false\/bg k (sl "text")=true/\∃w c l,uT r=some w/\aa w=c::l):=by
 unfold dH at h;induction hq:xq v with
 |none=>rw[hq]at h;exact fT h
 |some q =>
  rw[hq]at h;have h1:=jP.mp h;obtain h2:=jP.mp h1.2;refine⟨q.1,q.2,rfl,h1.1,h2.1,?_⟩;have h3:=h2.2;clear h1 h h2 hq;induction hk:bg q.1 (sl "text") with
  |false=>exact .inl rfl
  |true =>
   rw[hk]at h3;clear hk;induction ho:uT q.2 with
   |none=>dsimp only at h3;rw[ho]at h3;exact fT h3
   |some w =>
    rw[ho]at h3;clear ho;induction hw:aa w using aQ with
    |nil=>dsimp only at h3;rw[hw]at h3;exact fT h3
    |cons c l=>exact .inr ⟨rfl,w,c,l,rfl,hw⟩
theorem S0 (h:dH v=true):k8 (λZ=>false) v=true:=by
 refine cj (CT h) ?_;rintro k r h1 h2 _;rw[CJ h1];exact h2
theorem JX:∀{l},l.all dH=true->dj l=true
 |[],_=>rfl
 |v::l,h=>by
  rw[lY,cc]at h;show(k8 _ v&&dq _ l)=true;rw[S0 h.1,show dq (λZ=>false) l=true from JX h.2];rfl
structure fq (A:List At):Prop where
 ch:∀x,At.chr x∈A->kh x=true
 tk:∀s k,At.tok s k∈A->d9 s k
inductive Md where
 |v|t|s
inductive Wx (ai:Bool)(du:Bool):Md->Co->List At->List Fv->Prop
 |pj {c:Co}:c.i8=3->c.hd=du->Wx ai du .v c [] []
 |sH {c:Co} {F:List Fv}:c.i8≠3->(ai=false->c.hd=false)->Wx ai du .t c [] F
 |here {sz:Nat} {A:List At} {F:List Fv}:fq A->Wx ai du .s ⟨2,ai,sz⟩ (.chr 93::.chr 93::.chr 62::A) F
 |tok {m:Md} {c c1:Co} {s:List Nat} {k:ak} {A:List At} {F:List Fv} {aM:List V}:d9 s k->(m=.t->c.i8≠3)->(ai=false->c.hd=false)->aM.length<=4->aM.all dH=true->(∀p,iO ai c k (aw s) p (some (aM,c1)))->Wx ai du m c1 A F->Wx ai du m c (.tok s k::A) (fl aM++F)
 |chr {m:Md} {sz x:Nat} {A:List At} {F:List Fv}:kh x=true->x≠62->Wx ai du m ⟨2,ai,sz⟩ A F->Wx ai du m ⟨2,ai,sz⟩ (.chr x::A) (.inr x::F)
 |uX {sz:Nat}:ai=du->Wx ai du .v ⟨3,ai,sz⟩ [.chr 10] []
variable {ai du:Bool}
theorem TK (h:kh x=true):x≠60/\x≠38:=by
 rcases JE.mp h with rfl|rfl|rfl|rfl|rfl|rfl<;>exact⟨by decide,by decide⟩
theorem fq.cons (h:fq A)(h1:∀x,a=.chr x->kh x=true)(h2:∀s k,a=.tok s k->d9 s k):fq (a::A) :=
 ⟨λx hx=>(cU.mp hx).elim (λe=>h1 x e.symm) (h.ch x),λs k hx=>(cU.mp hx).elim (λe=>h2 s k e.symm) (h.tk s k)⟩
theorem fq.tail (h:fq (a::A)):fq A:=⟨λx hx=>h.ch x (jj _ hx),λs k hx=>h.tk s k (jj _ hx)⟩
theorem fq.chr (h:fq A)(hx:kh x=true):fq (.chr x::A):=h.cons (λy e=>by cases e;exact hx) (λs k e=>by exact nC Zq.At.ctorIdx e rfl)
theorem fq.tok (h:fq A)(hx:d9 s k):fq (.tok s k::A):=h.cons (λy e=>by exact nC Zq.At.ctorIdx e rfl) (λs k e=>by cases e;exact hx)
theorem fq.nil:fq []:=⟨λx h=>(by cases h),λs k h=>(by cases h)⟩
theorem Wx.sW (h:Wx ai du m c A F):fq A:=by
 induction h with
 |pj=>exact fq.nil
 |sH=>exact fq.nil
 |here h=>exact((h.chr rfl).chr rfl).chr rfl
 |tok h1 _ _ _ _ _ _ ih=>exact ih.tok h1
 |chr h1 _ _ ih=>exact ih.chr h1
 |uX=>exact fq.nil.chr rfl
theorem Wx.hd (h:Wx ai du m c A F)(hm:m≠.v):ai=false->c.hd=false:=by
 cases h with
 |pj=>exact absurd rfl hm
 |sH _ h=>exact h
 |here=>exact λh=>h
 |tok _ _ h=>exact h
 |chr=>exact λh=>h
 |uX=>exact absurd rfl hm
theorem Wx.st (h:Wx ai du .t c A F):c.i8≠3:=by
 cases h with
 |sH h=>exact h
 |tok _ h=>exact h rfl
 |chr=>intro q;cases q
theorem Nw:∀(u:List Nat) {m} {c} {A B} {F},Wx ai du m c B F->B=chars u++A->c.i8=2->pL u=false->(m=.s->qQ u A)->∃F',Wx ai du m c A F'/\(m=.v->F=u.map .inr++F')
 |[],m,c,A,B,F,h,e,_,_,_=>by
  subst e;exact(aP F h (λZ=>rfl))
 |x::u,m,c,A,B,F,h,e,h2,ho,hs=>by
  obtain ho:(dh [93,93,62] (x::u)||pL u)=false:=ho;rw[Bool.or_eq_false_iff]at ho;cases h with
  |pj=>exact nC gq e rfl
  |sH=>exact nC gq e rfl
  |tok=>cases e
  |uX=>cases h2
  |chr h1 h3 h4 =>
   injection e with e1 e2
   injection e1 with e1
   (refine ir e1 ?_);refine aO (Nw u h4 e2 h2 ho.2 (λq=>(hs q).tail)) ?_;rintro F' w hf;exact(aP F' w (λq=>by rw[hf q];rfl))
  |here hA =>
   obtain hs:= hs rfl;exfalso;injection e with e1 e2
   injection e1 with e1
   subst e1;induction u using aQ with
   |nil=>exact hs.1 [] _ ⟨rfl,e2.symm⟩
   |cons y u =>
    injection e2 with e1 e2
    injection e1 with e1
    subst e1;induction u using aQ with
    |nil=>exact hs.2 [] _ ⟨rfl,e2.symm⟩
    |cons z u =>
     injection e2 with e1 e2
     injection e1 with e1
     clear hs;subst e1;obtain h1:= ho.1;simp[dh]at h1
theorem zZ:∀{u},(∀x∈u,x≠62)->pL u=false
 |[],_=>rfl
 |c::r,h=>by
  show(dh [93,93,62] (c::r)||pL r)=false;rw[zZ (u:=r) (λx hx=>h x (jj _ hx)),Bool.or_false];induction q:dh [93,93,62] (c::r) with
  |false=>rfl
  |true =>
   have af:=(rx.mp q).subset (a:=62) (by simp);exact absurd rfl (h 62 af)
theorem Wx.zZ (h:Wx ai du m c A F)(hm:m≠.s):∀x,At.chr x∈A->x≠62:=by
 induction h with
 |pj=>intro x h;cases h
 |sH=>intro x h;cases h
 |here h=>exact absurd rfl hm
 |tok h1 _ _ _ _ _ _ ih =>
  intro x hx;refine aG (cU.mp hx) ?_ ?_
  ·rintro e;exact nC Zq.At.ctorIdx e rfl
  ·rintro hx;exact ih hm x hx
 |chr h1 h2 _ ih =>
  intro x hx;refine aG (cU.mp hx) ?_ ?_
  ·rintro e;cases e;exact h2
  ·rintro hx;exact ih hm x hx
 |uX =>
  intro x hx;refine aG (cU.mp hx) ?_ ?_
  ·rintro e;cases e;decide
  ·rintro hx;cases hx
theorem Im (h:x∈u):At.chr x∈chars u:=JB.mpr (aP x h rfl)
theorem LG (h:Wx ai du m c (chars u++A) F)(h0:u≠[])(hs:m=.s->qQ u A)(hl:u.length<=4096):(∃F' aM,(∀p,iO ai c (sl "text") (aw u) p (some (aM,c)))/\aM.length<=4/\aM.all dH=true/\Wx ai du m c A F'/\(m=.v->F=fl aM++F'))\/(m≠.v/\∀p,iO ai c (sl "text") (aw u) p none):=by
 obtain hc:∀x∈aa (aw u),kh x=true:=λx hx=>h.sW.ch x (xO _ (Im hx));obtain kX: ∀sz,c=⟨2,ai,sz⟩->(∃F' aM,(∀p,iO ai c (sl "text") (aw u) p (some (aM,c)))/\aM.length<=4/\aM.all dH=true/\Wx ai du m c A F'/\(m=.v->F=fl aM++F'))\/(m≠.v/\∀p,iO ai c (sl "text") (aw u) p none):=by
  intro sz e;subst e;induction ho:pL u with
  |true =>
   right;refine⟨λhm=>?_,λp=>(QC ai sz p (w:=aw u) hl hc ((occ_eq u).trans ho)).call⟩;have af:=Zq.zZ (u:=u) λx hx=>h.zZ (by rw[hm];intro q;exact nC Zq.Md.ctorIdx q rfl) x (xO _ (Im hx));rw[ho]at af;exact tF af
  |false =>
   left;refine aO (Nw u h rfl rfl ho hs) ?_;rintro F' w hf;refine(qu F' ([.tup [.str (sl "text"),.str (aw u)]]) (λp=>(Tf ai sz p (w:=aw u) hl hc ((occ_eq u).trans ho)).call rfl) (by simp) ?_ w (λhm=>?_))
   ·clear h hc hf hl ho hs;induction u using aQ with
    |nil=>exact absurd rfl h0
    |cons=>rfl
   rw[hf hm];show _=(u.map wj++[])++F';rw[di]
 clear hc hl hs;induction u using aQ with
 |nil=>exact absurd rfl h0
 |cons x u =>
  generalize hB:chars (x::u)++A=B at h;cases h with
  |pj=>exact nC gq hB rfl
  |sH=>exact nC gq hB rfl
  |tok=>cases hB
  |here=>exact kX _ rfl
  |chr=>exact kX _ rfl
  |@uX sz e =>
   left;injection hB with e1 e2
   injection e1 with e1
   (refine il e1 ?_);refine oA (Qp.mp e2) ?_;rintro e3 e4;obtain e3:=List.map_eq_nil_iff.mp e3;subst e3 e4;exact(qu [] [] (λp=>(UP ai sz p).call rfl) (by simp) rfl (.pj rfl e) (λZ=>rfl))
theorem Iv:∀(T:List Nat),∃u X,T=u++X/\AO u/\(X=[]\/∃c r,X=c::r/\(c=60\/c=38))
 |[]=>(ey [] [] rfl (λc h=>(by cases h)) (.inl rfl))
 |c::T=>by
  by_cases hc:c=60\/c=38
  ·exact⟨[],c::T,rfl,λc h=>(by cases h),.inr (cF c T rfl hc)⟩
  ·refine cj (Iv T) ?_;rintro u X e h1 h2;refine(ey (c::u) X (by rw[e];rfl) (λx hx=>?_) h2);refine aG (cU.mp hx) ?_ ?_
   ·rintro rfl;exact⟨λe=>hc (.inl e),λe=>hc (.inr e)⟩
   ·rintro hx;exact h1 x hx
theorem H7:∀(u:List Nat) {A} {R},fq A->AO u->u++R=flat A->∃A',A=chars u++A'/\R=flat A'
 |[],A,R,_,_,e=>(aP A rfl e)
 |c::u,[],R,_,_,e=>by exact nC gq e rfl
 |c::u,.tok s k::A,R,h,hm,e=>by
  refine dc ((h.tk s k fJ).hd) ?_;rintro d r rfl hd;injection e with e1 e2
  obtain af:= hm c fJ;lia
 |c::u,.chr x::A,R,h,hm,e=>by
  injection e with e1 e2
  (refine ir e1 ?_);refine aO (H7 u h.tail (λx hx=>hm x (jj _ hx)) e2) ?_;rintro A' e3 e4;exact(aP A' (by rw[e3];rfl) e4)
theorem IU (h:fq A)(e:flat A=[]):A=[]:=by
 induction A using aQ with
 |nil=>rfl
 |cons a A =>
  induction a with
  |chr c=>exact nC gq e rfl
  |tok s k =>
   refine dc ((h.tk s k fJ).hd) ?_;rintro d r rfl hd;exact nC gq e rfl
theorem PQ (h:ai=false->c.hd=false)(p:Int)(w:ak):iO ai c (sl "wrong") w p none:=by
 obtain⟨st,hd,sz⟩:=c;induction ai with
 |false =>
  obtain af: hd=false:=h rfl;clear h;(refine il af ?_);exact(IJ false st sz p w).call
 |true =>
  clear h;induction hd with
  |false=>exact QT st sz p w
  |true=>exact(IJ true st sz p w).call
noncomputable def En (ai du bH:Bool)(m:Md)(c:Co)(T Y:List Nat)(F:List Fv)(pl:Int):Prop :=
 ∃es r,TL ai bH c (aw T) pl es r/\es.length<=4*T.length/\es.all dH=true/\match r with
  |none=>m≠.v
  |some q=>∃A1 F1,Wx ai du m q.1 A1 F1/\aa q.2.1++Y=flat A1/\(aa q.2.1).length<=T.length/\(m=.v->F=fl es++F1)/\(bH=true->aa q.2.1=[])
theorem KJ (ai du bH:Bool):∀(n:Nat) (T Y:List Nat) {m} {c} {A} {F} (pl:Int),T.length<=n->T.length<=4096->T++Y=flat A->Wx ai du m c A F->(bH=true->m≠.t->Y=[]) ->
 En ai du bH m c T Y F pl:=by
 intro n;induction n with
 |zero =>
  intro T Y m c A F pl hn hT e w hy;have af:T=[]:=G4 (Nat.eq_zero_of_le_zero hn);subst af;exact⟨[],_,.stop rfl,fP _,rfl,A,F,w,e,bc _,λZ=>rfl,λZ=>rfl⟩
 |succ n ih =>
  intro T Y m c A F pl hn hT e w hy;have step:∀(k:ak) (T1 T2:List Nat) (aM:List V) (c1:Co) (A1:List At) (F1:List Fv),T=T1++T2->T1≠[]->cT (aw T) bH=some (k,T1.length)->(∀p,iO ai c k (aw T1) p (some (aM,c1)))->aM.length<=4->aM.all dH=true->Wx ai du m c1 A1 F1->T2++Y=flat A1->(m=.v->F=fl aM++F1) ->
   En ai du bH m c T Y F pl:=by
   intro k T1 T2 aM c1 A1 F1 eT h0 tk hc hl hr w1 e1 hF;have h1:1<=T1.length:=by induction T1 using aQ with|nil=>exact absurd rfl h0|cons=>simp
   have GR:T.length=T1.length+T2.length:=by rw[eT,bk]
   refine dT (ih T2 Y (pl+T1.length) (by lia) (by lia) e1 w1 hy) ?_;rintro es r tl mJ ZJ gZ;obtain q1: (aa (aw T)).take T1.length=T1:=by rw[eT,ye]
   obtain q2: (aa (aw T)).drop T1.length=T2:=by rw[eT,List.drop_left]
   refine(dp (aM++es) r (.go tk (by rw[q1];exact hc _) (by rw[q2];exact tl)) (by rw[bk];lia) ?_ ?_)
   ·rw[lW,hr,ZJ];rfl
   ·induction r with
    |none=>exact gZ
    |some q =>
     refine nV gZ ?_;rintro A2 F2 w2 e2 Ft xj hz;exact(qu A2 F2 w2 e2 (by lia) (λhm=>by rw[hF hm,xj hm,jY,bM]) hz)
  induction A using aQ with
  |nil =>
   have af:T=[]:=(Qp.mp e).1;subst af;exact⟨[],_,.stop rfl,fP _,rfl,[],F,w,e,bc _,λZ=>rfl,λZ=>rfl⟩
  |cons a A =>
   induction T using aQ with
   |nil=>exact⟨[],_,.stop rfl,fP _,rfl,a::A,F,w,e,bc _,λZ=>rfl,λZ=>rfl⟩
   |cons x T =>
   induction a with
   |tok s k =>
    have e:(x::T)++Y=s++flat A:=e;have tok:=w.sW.tk s k fJ;by_cases hl:s.length<=(x::T).length
    ·obtain⟨T2,eT,eY⟩:∃T2,x::T=s++T2/\T2++Y=flat A:=by
      refine aG (List.append_eq_append_iff.mp e) (Gl ?_) (Gl ?_)
      ·rintro q h1 h2;have af:q=[]:=by
        have af:=congrArg ew h1;rw[bk]at af;exact G4 (by lia)
       subst af;exact(aP [] (by rw[h1];simp) (by rw[h2];simp))
      ·rintro q h1 h2;exact(aP q h1 h2.symm)
     obtain Za: s≠[]:=by refine dc tok.hd ?_;rintro d r rfl _;intro q;exact nC gq q rfl
     cases w with
     |tok h1 h2 h3 h4 h5 h6 h7=>exact step k s T2 _ _ _ _ eT Za (by rw[eT];exact tok.all T2 bH) h6 h4 h5 h7 eY (λZ=>rfl)
    ·have eT:x::T=s.take (x::T).length:=by
      have af:=congrArg (y4 (x::T).length) e;rw[ye,OX (ky (vo hl))]at af;exact af
     refine oA (tok.part (x::T).length (by simp) (HG (vo hl))) ?_;rintro p1 p2;rw[<- eT]at p1 p2;induction bH with
     |false=>exact⟨[],_,.stop p1,fP _,rfl,_,F,w,e,bc _,λZ=>rfl,λh=>(fT h)⟩
     |true =>
      obtain hm: m=.t:=by
       induction m with
       |t=>rfl
       |v =>
        exfalso;obtain hY:= hy rfl (by intro q;exact nC Zq.Md.ctorIdx q rfl);subst hY;have af:=congrArg ew e;rw[bk,bk]at af;simp only[rH]at af;lia
       |s =>
        exfalso;obtain hY:= hy rfl (by intro q;exact nC Zq.Md.ctorIdx q rfl);subst hY;have af:=congrArg ew e;rw[bk,bk]at af;simp only[rH]at af;lia
      subst hm;exact(dp [] none (.exc p2 (PQ (w.hd (by intro q;exact nC Zq.Md.ctorIdx q rfl)) _ _)) (fP _) rfl (by intro q;exact nC Zq.Md.ctorIdx q rfl))
   |chr y =>
    obtain hx: x=y:=by injection e
    subst hx;obtain hxm:= TK (w.sW.ch x fJ);refine cj (Iv (x::T)) ?_;rintro u X eT hu hX;have E6:u≠[]:=by
     intro q;subst q;refine aG hX ?_ (cK ?_)
     ·clear hX;rintro rfl;exact nC gq eT rfl
     ·clear hX;rintro d r rfl hd;injection eT with e1 e2
      lia
    have eA:u++(X++Y)=flat (.chr x::A):=by rw[<- bM,<- eT];exact e
    refine aO (H7 u w.sW hu eA) ?_;rintro A1 hA hR;rw[hA]at w;have tr:=RG (b:=bH) hu E6 hX;rw[<- eT]at tr;obtain hul: u.length<=(x::T).length:=by rw[eT,bk];exact(dK u.length X.length)
    have whole:cT (aw (x::T)) bH=some (sl "text",u.length)->(m=.s->qQ u A1)->En ai du bH m c (x::T) Y F pl:=λtk hs=>by
     refine aG (LG w E6 hs (bC hul hT)) (JY ?_) (kA ?_)
     ·rintro F' aM hc h1 h2 w' hf;exact step (sl "text") u X aM c A1 F' eT E6 tk hc h1 h2 w' hR hf
     ·rintro hm hc;refine(dp [] none (.exc tk ?_) (fP _) rfl hm);obtain q1: (aa (aw (x::T))).take u.length=u:=by rw[eT,ye]
      rw[q1];exact hc _
    refine aG hX ?_ (cK ?_)
    ·clear hX;rintro rfl;rw[di]at eT;induction bH with
     |true =>
      have tk:cT (aw (x::T)) true=some (sl "text",u.length):=by rw[tr,Bool.not_true,IC]
      refine whole tk λhm=>?_;obtain hY:= hy rfl (by rw[hm];intro q;exact nC Zq.Md.ctorIdx q rfl);subst hY;obtain Y0: A1=[]:=by
       obtain ao: fq A1:=by
        have af:=w.sW;exact⟨λx h=>af.ch x (pU _ h),λs k h=>af.tk s k (pU _ h)⟩
       exact IU ao hR.symm
      (refine il Y0 ?_);exact⟨λp A' ⟨_,e⟩=>(by exact nC gq e rfl),λp A' ⟨_,e⟩=>(by exact nC gq e rfl)⟩
     |false =>
      rw[eT,show bx u.length u.length=true from Nat.beq_refl _]at tr;simp only[Bool.not_false,Bool.and_self]at tr;refine cj (R4 u) ?_;rintro u1 h eu hh sf;have fY:u.length=u1.length+h.length:=by rw[eu,bk]
      rw[hh]at tr;induction hb:cE h.length u.length with
      |false =>
       rw[hb]at tr;refine⟨[],_,.stop (by rw[eT];exact tr),fP _,rfl,_,F,w,?_,bc _,λZ=>rfl,λh=>(fT h)⟩;rw[<- hA];exact e
      |true =>
       have NM:=rT.mp hb;rw[hb,show u.length-h.length=u1.length by exact eG (Nat.eq_sub_of_add_eq (eG fY))]at tr;have lL:u1≠[]:=by intro q;subst q;simp at fY;lia
       obtain w2: Wx ai du m c (chars u1++(chars h++A1)) F:=by
        rw[<- bM,<- vz,<- eu];exact w
       have NJ:x::T=u1++h:=by rw[eT,eu]
       have tk:cT (aw (x::T)) false=some (sl "text",u1.length):=by rw[eT];exact tr
       refine aG (LG w2 lL (λZ=>sf A1) (by lia)) (JY ?_) (kA ?_)
       ·rintro F' aM hc h1 h2 w' hf;exact step (sl "text") u1 h aM c _ F' NJ lL tk hc h1 h2 w' (by rw[HW,<- hR];rfl) hf
       ·rintro hm hc;refine(dp [] none (.exc tk ?_) (fP _) rfl hm);obtain q1: (aa (aw (x::T))).take u1.length=u1:=by rw[NJ,ye]
        rw[q1];exact hc _
    ·clear hX;rintro d r rfl hd;have fY:(u++d::r).length=u.length+r.length+1:=by rw[bk,dJ];exact eG (eG (aH (u.length+(r.length+1))))
     have tk:cT (aw (x::T)) bH=some (sl "text",u.length):=by
      rw[tr];have af:bx u.length (x::T).length=false:=by
       induction q:bx u.length (x::T).length with
       |false=>rfl
       |true =>
        have af:=eS q;rw[eT,fY]at af;lia
      rw[af,Bool.false_and]
     refine whole tk λhm=>?_;obtain ao: fq A1:=by
      have af:=w.sW;exact⟨λx h=>af.ch x (pU _ h),λs k h=>af.tk s k (pU _ h)⟩
     refine⟨λp A' ⟨_,e⟩=>?_,λp A' ⟨_,e⟩=>?_⟩
     ·rw[e]at hR;injection hR with e1 e2;lia
     ·rw[e]at hR;injection hR with e1 e2;lia
noncomputable def xf (x:List Nat):Prop:=∃p,x=p++[13]
theorem yE (h:xf (d::x)):xf (c::d::x):=by
 refine oE h ?_;clear h;rintro p e;exact⟨c::p,by rw[e];rfl⟩
theorem mY:∀(n:Nat) (x R:List Nat),x.length<=n->(¬xf x\/∀r,R≠10::r)->nl (x++R)=nl x++nl R
 |_,[],R,_,_=>rfl
 | 0,_::_,_,hn,_=>by simp at hn
 |n+1,c::x,R,hn,h=>by
  rw[dJ]at hn;by_cases hc:c=13
  ·subst hc;induction x using aQ with
   |nil =>
    obtain hR: ∀r,R≠10::r:=by
     refine aG h ?_ ?_
     ·rintro h;exact absurd ⟨[],rfl⟩ h
     ·rintro h;exact h
    clear h;induction R using aQ with
    |nil=>rw[di,show nl []=[] from rfl,di]
    |cons d r =>
     obtain hd: d≠10:=λe=>hR r (by rw[e]);rw[sy r hd,vN];rfl
   |cons d x =>
    rw[dJ]at hn;by_cases hd:d=10
    ·(refine il hd ?_);show nl (13::10::(x++R))=_;rw[vQ,vQ,mY n x R (ky (vi hn)) (h.imp (λh q=>h (by
      clear h hn;induction x using aQ with
      |nil=>refine oE q ?_;rintro p e;induction p using aQ<;>exact nC gq e rfl
      |cons y x=>exact yE (yE q))) id)]
     rfl
    ·show nl (13::d::(x++R))=_;rw[sy _ hd,sy _ hd,show d::(x++R)=(d::x)++R from rfl,mY n (d::x) R (by simp;exact vi hn) (h.imp (λh q=>h (yE q)) id)];rfl
  ·show nl (c::(x++R))=_;rw[qI _ hc,qI _ hc,mY n x R (vi hn) (h.imp (λh q=>h (by
    clear h hn;induction x using aQ with
    |nil=>refine oE q ?_;rintro p e;induction p using aQ<;>exact nC gq e rfl
    |cons y x=>exact yE q)) id)]
   rfl
theorem vX:ru x=true↔xf x:=tQ
theorem Tu (x R:List Nat):nl (x++R)=nl (fD x)++nl (eg x++R):=by
 unfold fD eg;induction h:ru x with
 |true =>
  refine oE (vX.mp h) ?_;clear h;rintro p rfl;skip;rw[xP,bM];exact mY _ p _ (bc _) (.inr λr e=>by cases e)
 |false=>exact mY _ x _ (bc _) (.inl λq=>by rw[vX.mpr q]at h;exact tF h)
theorem UK (x:List Nat):(fD x).length+(eg x).length=x.length:=by
 unfold fD eg;induction h:ru x with
 |true =>
  refine oE (vX.mp h) ?_;clear h;rintro p rfl;dsimp only;rw[xP,bk]
 |false=>rfl
theorem UT (x y:List Nat):∃Y,nl (x++y)=nl x++Y:=by
 by_cases h:xf x
 ·refine oE h ?_;clear h;rintro p rfl;rw[bM,mY _ p _ (bc _) (.inr λr e=>by cases e),mY _ p [13] (bc _) (.inr λr e=>by cases e)];induction y using aQ with
  |nil=>exact⟨[],by simp⟩
  |cons d r =>
   by_cases hd:d=10
   ·subst hd;exact⟨nl r,by show nl p++nl (13::10::r)=_;rw[vQ,vN];simp⟩
   ·exact⟨nl (d::r),by show nl p++nl (13::d::r)=_;rw[sy _ hd,vN];simp⟩
 ·exact⟨nl y,mY _ x y (bc _) (.inl h)⟩
noncomputable def cat:List ak->List Nat
 |[]=>[]
 |p::r=>aa p++cat r
theorem K8 (ai du:Bool){m:Md}(Y:List Nat)(hy:m≠.t->Y=[]):∀(parts:List ak) {c:Co} {T h:ak} {pl:Int} {A:List At} {F:List Fv},aa T++(nl (aa h++cat parts)++Y)=flat A->Wx ai du m c A F->(aa T).length+((aa h).length+(cat parts).length)<=240 ->
 ∃es r,q9 ai c T pl h parts es r/\es.all dH=true/\match r with
  |none=>m≠.v
  |some q=>∃A1 F1,Wx ai du m q.1 A1 F1/\aa q.2.1++(nl (aa q.2.2.2)++Y)=flat A1/\(aa q.2.1).length+(aa q.2.2.2).length<=240/\(m=.v->F=fl es++F1)
 |[],c,T,h,pl,A,F,e,w,hl=>by
  refine⟨[],_,.nil,rfl,A,F,w,?_,?_,λZ=>rfl⟩
  ·rw[<- e];show _=aa T++(nl (aa h++[])++Y);rw[di]
  ·exact bC (bC (bc ((aa T).length+(aa h).length)) (bc ((aa T).length+(aa h).length))) hl
 |p::ps,c,T,h,pl,A,F,e,w,hl=>by
  have e:aa T++(nl (aa h++(aa p++cat ps))++Y)=flat A:=e;have hl:(aa T).length+((aa h).length+(aa p++cat ps).length)<=240:=hl;rw[bk]at hl;rw[<- bM (aa h),Tu]at e;have YD:=UK (aa h++aa p);rw[bk]at YD;have YU:=nW _ (fD (aa h++aa p)) (bc _);obtain e2: (aa T++nl (fD (aa h++aa p)))++(nl (eg (aa h++aa p)++cat ps)++Y)=flat A:=by
   rw[<- e];simp only[bM]
  obtain mK: (aa T++nl (fD (aa h++aa p))).length<=240:=by rw[bk];lia
  have GR:(aa T++nl (fD (aa h++aa p))).length=(aa T).length+(nl (fD (aa h++aa p))).length:=bk;refine dT (KJ ai du false _ (aa T++nl (fD (aa h++aa p))) (nl (eg (aa h++aa p)++cat ps)++Y) pl (bc _) (bC mK (cJ 240 3856)) e2 w (λq=>by exact fT q)) ?_;rintro es r tl h4 hr hq;have s1:sm T:=by unfold sm;lia
  have s2:(aa h).length+(aa p).length<=4000:=by lia
  have s3:sm (aw (aa T++nl (fD (aa h++aa p)))):=by exact bC mK (cJ 240 3856)
  induction r with
  |none=>exact(ey [] none (.exc s1 s2 s3 (by lia) tl) rfl hq)
  |some q =>
   refine nV hq ?_;rintro A1 F1 w1 e1 sX u5 _;refine cj (K8 ai du Y hy ps (c:=q.1) (T:=q.2.1) (h:=aw (eg (aa h++aa p))) (pl:=q.2.2) e1 w1 (by lia)) ?_;rintro kW r2 fd gZ uY;refine(ey (es++kW) r2 (.cons s1 s2 s3 (by lia) tl fd) (by rw[lW,hr,gZ];rfl) ?_);clear fd;induction r2 with
   |none=>exact uY
   |some q =>
    refine dT uY ?_;rintro A2 F2 w2 e3 Ft xj;exact(dp A2 F2 w2 e3 Ft (λhm=>by rw[u5 hm,xj hm,jY,bM]))
theorem Dr (ai du:Bool)(Y:List Nat)(hy:m≠.t->Y=[])(hn:parts.length<=40)(e:nl (cat parts)++Y=flat A)(w:Wx ai du m ⟨0,false,0⟩ A F)(hl:(cat parts).length<=240):(m≠.v/\ng ai parts none)\/(m=.v/\∃es c,ng ai parts (some (es,c))/\fl es=F/\c.hd=du/\es.all dH=true):=by
 refine cj (K8 ai du Y hy parts (c:=⟨0,false,0⟩) (T:=sl "") (h:=sl "") (pl:=0) e w (by show 0+(0+_)<=_;lia)) ?_;rintro es r fd hr hq;induction r with
 |none=>exact .inl ⟨hq,hn,es,none,fd,rfl⟩
 |some q =>
  refine dT hq ?_;clear hq;rintro A1 F1 w1 e1 sX u5;have YU:=nW _ (aa q.2.2.2) (bc _);have GR:(aa q.2.1++nl (aa q.2.2.2)).length=(aa q.2.1).length+(nl (aa q.2.2.2)).length:=bk;rw[<- bM]at e1;refine dT (KJ ai du true _ (aa q.2.1++nl (aa q.2.2.2)) Y q.2.2.1 (bc _) (by lia) e1 w1 (λZ h=>hy h)) ?_;rintro kW r2 tl h4 gZ uY;obtain s1: sm q.2.1:=by unfold sm;lia
  obtain s3: sm (aw (aa q.2.1++nl (aa q.2.2.2))):=by show(aa q.2.1++nl (aa q.2.2.2)).length<=4096;lia
  obtain mk: ∀res,res=(uL kW r2).map (λq=>(es++q.1,q.2))->ng ai parts res:=λres og =>
   ⟨hn,es,_,fd,s1,by lia,s3,kW,r2,by lia,tl,og⟩
  clear tl;induction r2 with
  |none=>exact .inl ⟨uY,mk none rfl⟩
  |some q =>
   obtain⟨c2,T2,k9⟩:=q;refine nV uY ?_;clear uY;rintro A2 F2 w2 e2 Ft xj hz;rw[hz rfl,vt]at e2;obtain fin: m≠.t->A2=[]:=λhm=>IU w2.sW (by rw[<- e2];exact hy hm);clear hy w w1;induction m with
   |v =>
    right;obtain hA:= fin (by intro q;exact nC Zq.Md.ctorIdx q rfl);clear e2 fin;subst hA;cases w2 with
    |pj h3 hh =>
     refine(Ki rfl (es++kW) c2 (mk _ ?_) ?_ hh (by rw[lW,hr,gZ];rfl))
     ·show _=(match bx c2.i8 3 with|true=>some (kW,c2)|false=>none).map _;rw[h3];rfl
     ·rw[jY,u5 rfl,xj rfl,di]
   |t =>
    left;refine⟨λq=>(nC Zq.Md.ctorIdx q rfl),mk none ?_⟩;show none=(match bx c2.i8 3 with|true=>some (kW,c2)|false=>none).map _;obtain af:= w2.st;induction q:bx c2.i8 3 with
    |true=>exact absurd (eS q) af
    |false=>rfl
   |s =>
    obtain hA:= fin (by intro q;exact nC Zq.Md.ctorIdx q rfl);clear e2 fin;subst hA;cases w2
theorem Dt:d9 (aa (sl "<?xml version='1.0'?>")) (sl "instruction"):=d9.mk' (λX b=>by induction b<;>kernel_rfl) (by kernel_rfl) (by kernel_rfl)
theorem Ww:d9 (aa (sl "<!DOCTYPE a [<!--]>-->]>")) (sl "doctype"):=d9.mk' (λX b=>by induction b<;>kernel_rfl) (by kernel_rfl) (by kernel_rfl)
theorem ES:d9 (aa (sl "<a>")) (sl "start"):=d9.mk' (λX b=>by rcases X with _|⟨x1,_|⟨x2,_|⟨x3,_|⟨x4,_|⟨x5,_|⟨x6,X⟩⟩⟩⟩⟩⟩<;>induction b<;>kernel_rfl) (by kernel_rfl) (by kernel_rfl)
theorem DN:d9 (aa (sl "<a b='x&#38;y'>")) (sl "start"):=d9.mk' (λX b=>by induction b<;>kernel_rfl) (by kernel_rfl) (by kernel_rfl)
theorem WB:d9 (aa (sl "&lt;")) (sl "reference"):=d9.mk' (λX b=>by induction b<;>kernel_rfl) (by kernel_rfl) (by kernel_rfl)
theorem U3:d9 (aa (sl "&#x41;")) (sl "reference"):=d9.mk' (λX b=>by induction b<;>kernel_rfl) (by kernel_rfl) (by kernel_rfl)
theorem Ex:d9 (aa (sl "&e;")) (sl "reference"):=d9.mk' (λX b=>by induction b<;>kernel_rfl) (by kernel_rfl) (by kernel_rfl)
theorem VO:d9 (aa (sl "<![CDATA[<]]]>")) (sl "cdata"):=d9.mk' (λX b=>by induction b<;>kernel_rfl) (by kernel_rfl) (by kernel_rfl)
theorem VU:d9 (aa (sl "<!--k->-->")) (sl "comment"):=d9.mk' (λX b=>by induction b<;>kernel_rfl) (by kernel_rfl) (by kernel_rfl)
theorem Vq:d9 (aa (sl "<?t d>?>")) (sl "instruction"):=d9.mk' (λX b=>by rcases X with _|⟨x1,_|⟨x2,_|⟨x3,_|⟨x4,_|⟨x5,_|⟨x6,X⟩⟩⟩⟩⟩⟩<;>induction b<;>kernel_rfl) (by kernel_rfl) (by kernel_rfl)
theorem V7:d9 (aa (sl "<c d=\"'>\"/>")) (sl "start"):=d9.mk' (λX b=>by induction b<;>kernel_rfl) (by kernel_rfl) (by kernel_rfl)
theorem LL:d9 (aa (sl "</a >")) (sl "end"):=d9.mk' (λX b=>by rcases X with _|⟨x1,_|⟨x2,_|⟨x3,_|⟨x4,_|⟨x5,_|⟨x6,X⟩⟩⟩⟩⟩⟩<;>induction b<;>kernel_rfl) (by kernel_rfl) (by kernel_rfl)
theorem LM:d9 (aa (sl "<!--f-->")) (sl "comment"):=d9.mk' (λX b=>by induction b<;>kernel_rfl) (by kernel_rfl) (by kernel_rfl)
variable {G:Nat->Option (Nat->List V->Mo V)}
noncomputable def dO (σ:Sg)(i:Nat):Prop:=∃a b,ay σ i=some (.list [.int a,.int b])
structure Ext (i:Nat)(σ aj:Sg):Prop where
 le:σ.length<=aj.length
 eq:∀j,j<σ.length->j≠i->ay aj j=ay σ j
 src:dO aj i
theorem Ext.trans (h:Ext i a b)(k:Ext i b c):Ext i a c :=
 ⟨bC h.le k.le,λj hj hi=>(k.eq j (fK hj h.le) hi).trans (h.eq j hj hi),k.src⟩
theorem dO.lt (h:dO σ i):i<σ.length:=by refine fE h ?_;clear h;rintro a b h;exact bK h
theorem dO.app (h:dO σ i)(τ:Sg):dO (σ++τ) i:=by
 obtain hl:= h.lt;refine fE h ?_;clear h;rintro a b h;exact(d7 a b (by rw[dB hl];exact h))
theorem Ext.uy (h:dO σ i):Ext i σ σ:=⟨bc _,λZ Z Z=>rfl,h⟩
theorem Ext.app (h:dO σ i)(τ:Sg):Ext i σ (σ++τ):=⟨by simp,λj hj Z=>dB hj,h.app τ⟩
theorem Ext.set (h:dO σ i)(a b:Int):Ext i σ (bG σ i (.list [.int a,.int b])):=⟨by rw[kz];exact bc _,λj Z hi=>qf hi,a,b,gM h.lt⟩
theorem Ext.get (h:Ext i σ aj)(hj:ay σ j=some o)(hi:j≠i):ay aj j=some o:=(h.eq j (bK hj) hi).trans hj
theorem item_list (h:ay σ i=some (.list l))(hv:ay l k=some v)(hl:l.length<=16777216):iu (.ref i) (.int (k:Nat)) σ=some (.ok v,σ):=by
 show bd (gt (listAt i)) (λl=>aX ((place (.ofNat k) l.length).bind (ay l))) σ=_;obtain e1: listAt i σ=some l:=by unfold listAt;rw[h]
 unfold bd gt;rw[e1];dsimp only;obtain af: place (.ofNat k) l.length=some k:=by
  unfold place;rw[iI hl];dsimp only;rw[show cE k l.length=true from lg (bK hv)]
 rw[af];show aX (ay l k) σ=_;rw[hv];rfl
theorem Je (h:ay σ i=some (.list l))(hk:k<l.length)(hl:l.length<=16777216):bd (mZ (.ref i) (.int (k:Nat)) v) (λZ=>rt V.none) σ=some (.ok .none,bG σ i (.list (bG l k v))):=by
 obtain e1: listAt i σ=some l:=by unfold listAt;rw[h]
 obtain e2: place (.ofNat k) l.length=some k:=by
  unfold place;rw[iI hl];dsimp only;rw[show cE k l.length=true from lg hk]
 obtain e:mZ (.ref i) (.int (k:Nat)) v=bd (gt (listAt i)) λl=>bd (aX (place (.ofNat k) l.length)) λj=>put i (.list (bG l j v)):=rfl;obtain e3: put i (.list (bG l k v)) σ=some (.ok (),bG σ i (.list (bG l k v))):=by
  unfold put;rw[h]
 rw[e];unfold bd gt;rw[e1];dsimp only;rw[e2];rw[show aX (some k) σ=some (Rs.ok k,σ) from rfl];dsimp only;rw[e3];rfl
theorem R9 (h1:-(2^64)<x)(h2:x<2^64):small x=true:=decide_eq_true ⟨h1,h2⟩
theorem rR (σ:Sg)(h:small y=true):gW .Mult (.int x) (.int y) σ=some (.ok (.int (x*y)),σ):=by
 show(match small x||small y with|true=>rt (V.int (x*y))|false=>no) σ=_;rw[h,Bool.or_true];rfl
theorem tY (σ:Sg)(h:0<y):gW .Mod (.int x) (.int y) σ=some (.ok (.int (x.fmod y)),σ):=by
 show(if y=0 then no else rt (V.int (x.fmod y))) σ=_;rw[if_neg (by exact Int.ne_of_gt h)];rfl
theorem Kz (σ:Sg)(h:0<y):gW .FloorDiv (.int x) (.int y) σ=some (.ok (.int (x.fdiv y)),σ):=by
 show(if y=0 then no else rt (V.int (x.fdiv y))) σ=_;rw[if_neg (by exact Int.ne_of_gt h)];rfl
theorem tM (hs:dO σ i)(ht:0<top):∃r aj,0<=r/\r<top/\Ext i σ aj/\bp aR (bJ G) (.ca (d+2) (.fn 1039) [.ref i,.int top]) σ (.ok (.v (.int r))) aj:=by
 refine fE hs ?_;rintro a b h;obtain hl:= bK h;obtain i0:=item_list (k:=0) h rfl (by exact(cJ 2 16777214));obtain i1:iu (.ref i) (.int 1) σ=some (.ok (.int b),σ):=item_list (k:=1) h rfl (by exact(cJ 2 16777214));induction hc:decide (a>0) with
 |true =>
  refine⟨a.fmod top,bG σ i (.list [.int (a.fdiv top),.int b]),Hi _ ht,HE _ ht,Ext.set (d7 a b h) _ _,?_⟩;obtain st:=Je (v:=.int (a.fdiv top)) h (k:=0) (by exact(cJ (kC 0) 1)) (by exact(cJ 2 16777214));exact aK 60 [.go,.o (.int a),.b true,.o (.int a),.o (.int (a.fmod top)),.o (.int a),.o (.int (a.fdiv top)),.a (.ok .none) (bG σ i (.list [.int (a.fdiv top),.int b]))] (λz=>ae i0 (ae hc (ae i0 (ae (tY (x:=a) σ ht) (ae i0 (ae (Kz (x:=a) σ ht) (ae st z)))))))
 |false =>
  obtain⟨x2,jg⟩:∃x2,x2=(b*39373+7).fmod 2147483647:=⟨_,rfl⟩;obtain h2a: 0<=x2:=by rw[jg];exact Hi _ (vA (2147483647-kC 0))
  obtain h2b: x2<2147483647:=by rw[jg];exact HE _ (vA (2147483647-kC 0))
  obtain st:bd (mZ (.ref i) (.int 1) (.int x2)) (λZ=>rt V.none) σ=some (.ok .none,bG σ i (.list [.int a,.int x2])):=Je (v:=.int x2) h (k:=1) (by exact(bc (kC 1))) (by exact(cJ 2 16777214));obtain Wr:=gM hl;obtain Nn:iu (.ref i) (.int 1) (bG σ i (.list [.int a,.int x2]))=some (.ok (.int x2),bG σ i (.list [.int a,.int x2])):=item_list (k:=1) Wr rfl (by exact(cJ 2 16777214));refine⟨(((x2*x2).fmod 2147483629).fdiv 32).fmod top,bG σ i (.list [.int a,.int x2]),Hi _ ht,HE _ ht,Ext.set (d7 a b h) _ _,?_⟩;obtain m1:=rR (x:=b) (y:=39373) σ rfl;obtain m2:=tY (x:=b*39373+7) (y:=2147483647) σ (vA (2147483647-kC 0));rw[<- jg]at m2;obtain m3:=rR (x:=x2) (y:=x2) (bG σ i (.list [.int a,.int x2])) (R9 (by lia) (by lia));obtain m4:=tY (x:=x2*x2) (y:=2147483629) (bG σ i (.list [.int a,.int x2])) (vA (2147483629-kC 0));obtain m5:=Kz (x:=(x2*x2).fmod 2147483629) (y:=32) (bG σ i (.list [.int a,.int x2])) (vA (32-kC 0));obtain m6:= tY (x:=((x2*x2).fmod 2147483629).fdiv 32) (bG σ i (.list [.int a,.int x2])) ht;exact aK 60 [.go,.o (.int a),.b false,.o (.int b),.o (.int (b*39373)),.o (.int x2),.a (.ok .none) (bG σ i (.list [.int a,.int x2])),.o (.int x2),.o (.int x2),.o (.int (x2*x2)),.o (.int ((x2*x2).fmod 2147483629)),.o (.int (((x2*x2).fmod 2147483629).fdiv 32)),.o (.int ((((x2*x2).fmod 2147483629).fdiv 32).fmod top))] (λz=>ae i0 (ae hc (ae i1 (ae m1 (ae m2 (ae st (ae Nn (ae Nn (ae m3 (ae m4 (ae m5 (ae m6 z))))))))))))
theorem BU (hs:dO σ i)(ht:ay σ t=some (.list l))(Yy:t≠i)(h0:l≠[])(hl:l.length<=1000):∃k v aj,ay l k=some v/\Ext i σ aj/\bp aR (bJ G) (.ca (d+3) (.fn 1046) [.ref i,.ref t]) σ (.ok (.v v)) aj:=by
 obtain hp: (0:Int)<l.length:=by clear hl ht;induction l using aQ with|nil=>exact absurd rfl h0|cons=>simp
 refine dT (tM (G:=G) (d:=d) hs hp) ?_;rintro r aj h1 h2 hx ev;refine oE (u6 h1) ?_;rintro k rfl;refine oE (qm (l:=l) (i:=k) (yy.mp h2)) ?_;rintro v hv;refine(ik k v aj hv hx ?_);obtain q:= item_list (hx.get ht Yy) hv (bC hl (cJ 1000 16776216));have ln: cw .len [.ref t] σ=some (.ok (.int l.length),σ):=by
  obtain e1: listAt t σ=some l:=by unfold listAt;rw[ht]
  obtain e:cw .len [.ref t]=bd (gt (listAt t)) λl=>(match fits l.length with|true=>rt (V.int (.ofNat l.length))|false=>no):=rfl;rw[e];unfold bd gt;rw[e1];dsimp only;rw[iI (bC hl (cJ 1000 16776216))];rfl
 exact aK 60 [.go,.o (.int l.length),.a (.ok (.int k)) aj,.o v] (λz=>ae ln (ae ev (ae q z)))
variable {G:Nat->Option (Nat->List V->Mo V)}
noncomputable def bB (a b:ak):ak:=aw (aa a++aa b)
noncomputable def dy (s:ak):V:=.tup [.str (sl "text"),.str s]
noncomputable def jZ:List (ak×List V):=[
 (sl "p]]",[dy (sl "p]]")]),
 (sl "q\r\nr\r",[dy (sl "q\nr\n")]),
 (sl "&lt;",[dy (sl "<")]),
 (sl "&#x41;",[dy (sl "A")]),
 (sl "&e;",[.tup [.str (sl "start"),.str (sl "b"),.tup []],dy (sl "z"),.tup [.str (sl "end"),.str (sl "b")],dy (sl "w")]),
 (sl "<![CDATA[<]]]>",[dy (sl "<]")]),
 (sl "<!--k->-->",[.tup [.str (sl "comment"),.str (sl "k->")]]),
 (sl "<?t d>?>",[.tup [.str (sl "instruction"),.str (sl "t"),.str (sl "d>")]]),
 (sl "<c d=\"'>\"/>",[.tup [.str (sl "start"),.str (sl "c"),.tup [.tup [.str (sl "d"),.str (sl "'>")]]],.tup [.str (sl "end"),.str (sl "c")]])]
noncomputable def qx:List (ak×List V):=[(sl "",[]),(sl "<?xml version='1.0'?>",[.tup [.str (sl "declaration"),.str (sl "1.0"),.none,.none]])]
noncomputable def sG:List (ak×V):=[(sl "",.tup []),(sl " b='x&#38;y'",.tup [.tup [.str (sl "b"),.str (sl "x&y")]])]
noncomputable def ua:List (ak×List V):=[(sl "",[]),(sl "\r\n",[]),(sl "<!--f-->",[.tup [.str (sl "comment"),.str (sl "f")]])]
noncomputable def kP:Sg->List (ak×List V)->Sg×List V
 |σ,[]=>(σ,[])
 |σ,(t,aM)::r=>((kP (σ++[.list aM]) r).1,.tup [.str t,.ref σ.length]::(kP (σ++[.list aM]) r).2)
theorem zt:∀(L:List (ak×List V)) (σ:Sg),(kP σ L).1=σ++L.map (λp=>.list p.2)
 |[],σ=>(di σ).symm
 |(t,aM)::r,σ=>by
  show(kP (σ++[.list aM]) r).1=_;rw[zt r];simp
theorem CQ:∀(L:List (ak×List V)) (σ:Sg),(kP σ L).2.length=L.length
 |[],σ=>rfl
 |(t,aM)::r,σ=>congrArg (·+1) (CQ r _)
theorem Lo:∀(L:List (ak×List V)) (σ:Sg) (k:Nat) (v:V),ay (kP σ L).2 k=some v->∃t aM,ay L k=some (t,aM)/\v=.tup [.str t,.ref (σ.length+k)]/\ay (kP σ L).1 (σ.length+k)=some (.list aM)
 |[],σ,k,v,h=>by induction k using eO<;>exact nS h
 |(t,aM)::r,σ,0,v,h=>by
  (refine aT h ?_;clear h v);refine(ey t aM rfl rfl ?_);rw[zt,eE];rfl
 |(t,aM)::r,σ,k+1,v,h=>by
  refine cj (Lo r (σ++[.list aM]) k v h) ?_;rintro t' Xi h1 h2 h3;rw[bk,oJ,JA,vH 1 k]at h2 h3;exact(ey t' Xi h1 h2 h3)
theorem Dh (hs:dO σ i)(h0:L≠[])(hl:L.length<=1000):∃t aM e aj,(t,aM)∈L/\e≠i/\Ext i σ aj/\ay aj e=some (.list aM) /\
 bp aR (bJ G) (.ca (d+3) (.fn 1046) [.ref i,.ref (kP σ L).1.length]) ((kP σ L).1++[.list (kP σ L).2]) (.ok (.v (.tup [.str t,.ref e]))) aj:=by
 have il:=hs.lt;have hx:Ext i σ ((kP σ L).1++[.list (kP σ L).2]):=by rw[zt,bM];exact Ext.app hs _
 obtain ll: σ.length<=(kP σ L).1.length:=by rw[zt];simp
 refine dG (BU (G:=G) (d:=d) (t:=(kP σ L).1.length) hx.src (cV _ _) (by lia) (by intro q;obtain af:= CQ L σ;rw[q]at af;exact h0 (G4 af.symm)) (by rw[CQ];exact hl)) ?_;rintro k v aj hv jg ev;refine cj (Lo L σ k v hv) ?_;rintro t aM h1 rfl h3;obtain hm: ∀{α:Type} {l:List α} {k:Nat} {a:α},ay l k=some a->a∈l:=by
  intro α l;induction l with
  |nil=>intro k a h;induction k using eO<;>exact nS h
  |cons b l ih =>
   intro k a h;induction k using eO with
   |zero=>(refine aT h ?_);exact fJ
   |succ k=>exact jj _ (ih h)
 exact(oP t aM (σ.length+k) aj (hm h1) (by lia) (hx.trans jg) (jg.get (by rw[dB (bK h3)];exact h3) (by lia)) ev)
theorem Qa (hs:dO σ i):∃t aM e aj,(t,aM)∈jZ/\e≠i/\Ext i σ aj/\ay aj e=some (.list aM)/\bp aR (bJ G) (.ca (d+4) (.fn 1053) [.ref i]) σ (.ok (.v (.tup [.str t,.ref e]))) aj:=by
 refine jU (Dh (G:=G) (d:=d) (L:=jZ) hs (by intro q;exact nC gq q rfl) (by decide)) ?_;rintro t aM e aj h1 h2 h3 h4 ev;exact(oP t aM e aj h1 h2 h3 h4 (aK 100 [.go,.a (.ok (.tup [.str t,.ref e])) aj] (λz=>ae ev z)))
theorem lE (σ:Sg)(h:(aa a).length+(aa b).length<=8192):gW .Add (.str a) (.str b) σ=some (.ok (.str (bB a b)),σ):=add_str σ h
theorem gu (a b:ak):(aa (bB a b)).length=(aa a).length+(aa b).length:=bk
theorem Cb:∀p∈qx,(aa p.1).length<=60/\p.2.length<=2:=by decide
theorem ym:∀p∈jZ,(aa p.1).length<=20/\p.2.length<=4:=by decide
theorem yn:∀p∈ua,(aa p.1).length<=20/\p.2.length<=4:=by decide
theorem Ji:∀p∈sG,(aa p.1).length<=20:=by decide
noncomputable def YO (p:ak×List V):ak×List V:=(bB (bB (bB p.1 (sl "<!DOCTYPE a [")) (sl "<!--]>-->")) (sl "]>"),p.2++[ju])
noncomputable def dw (p:ak×List V)(ai:Bool):ak×List V:=match ai with
 |true=>YO p
 |false=>p
theorem Qn (hs:dO σ i):∃p ai e aj,p∈qx/\e≠i/\Ext i σ aj/\ay aj e=some (.list (dw p ai).2)/\bp aR (bJ G) (.ca (d+4) (.fn 1060) [.ref i]) σ (.ok (.v (.tup [.str (dw p ai).1,.ref e]))) aj:=by
 refine jU (Dh (G:=G) (d:=d) (L:=qx) hs (by intro q;exact nC gq q rfl) (by decide)) ?_;rintro t aM e bj h1 h2 h3 h4 ev;refine dT (tM (G:=G) (d:=d+1) (top:=3) h3.src (by lia)) ?_;rintro r aY AM uG hx tk;obtain hl:=Cb _ h1;dsimp only at hl;induction hc:decide (r>0) with
 |true =>
  refine(oP (t,aM) false e aY h1 h2 (h3.trans hx) (hx.get h4 h2) ?_);exact aK 100 [.go,.a (.ok (.tup [.str t,.ref e])) bj,.a (.ok (.int r)) aY,.b true] (λz=>ae ev (ae tk (ae hc z)))
 |false =>
  obtain g1: ay (aY++[O.list [ju]]) e=some (.list aM):=by have af:=hx.get h4 h2;rw[dB (bK af)];exact af
  obtain g2:=cV _ _;obtain a4:= add_list g1 g2 (by simp;lia);obtain a1:=lE (a:=t) (b:=sl "<!DOCTYPE a [") aY (by show _+13<=_;lia);obtain a2:= lE (a:=bB t (sl "<!DOCTYPE a [")) (b:=sl "<!--]>-->") aY (by rw[gu];show _+13+9<=_;lia);obtain a3:= lE (a:=bB (bB t (sl "<!DOCTYPE a [")) (sl "<!--]>-->")) (b:=sl "]>") aY (by rw[gu,gu];show _+13+9+2<=_;lia);obtain il:= hx.src.lt;refine(oP (t,aM) true ((aY++[O.list [ju]]).length) (aY++[O.list [ju]]++[.list (aM++[ju])]) h1 (by simp;lia) ((h3.trans hx).trans (by rw[bM];exact Ext.app hx.src _)) (cV _ _) ?_);exact aK 100 [.go,.a (.ok (.tup [.str t,.ref e])) bj,.a (.ok (.int r)) aY,.b false,.o (.str (bB t (sl "<!DOCTYPE a ["))),.o (.str (bB (bB t (sl "<!DOCTYPE a [")) (sl "<!--]>-->"))),.o (.str (bB (bB (bB t (sl "<!DOCTYPE a [")) (sl "<!--]>-->")) (sl "]>"))),.a (.ok (.ref (aY++[O.list [ju]]).length)) (aY++[O.list [ju]]++[.list (aM++[ju])])] (λz=>ae ev (ae tk (ae hc (ae a1 (ae a2 (ae a3 (ae a4 z)))))))
variable {G:Nat->Option (Nat->List V->Mo V)}
noncomputable def ny:ak->List (ak×List V)->ak
 |t,[]=>t
 |t,p::r=>ny (bB t p.1) r
noncomputable def nz:List V->List (ak×List V)->List V
 |l,[]=>l
 |l,p::r=>nz (l++p.2) r
theorem I4:∀(L:List (ak×List V)) (t:ak),(∀p∈L,p∈jZ)->(aa (ny t L)).length<=(aa t).length+20*L.length
 |[],t,_=>bc _
 |p::r,t,h=>by
  obtain h1:= I4 r (bB t p.1) (λq hq=>h q (jj _ hq));obtain h2:= (ym p (h p fJ)).1;rw[gu]at h1;rw[dJ];show(aa (ny (bB t p.1) r)).length<=_;lia
theorem Cu:∀(L:List (ak×List V)) (l:List V),(∀p∈L,p∈jZ)->(nz l L).length<=l.length+4*L.length
 |[],l,_=>bc _
 |p::r,l,h=>by
  obtain h1:= Cu r (l++p.2) (λq hq=>h q (jj _ hq));obtain h2:= (ym p (h p fJ)).2;rw[bk]at h1;rw[dJ];show(nz (l++p.2) r).length<=_;lia
abbrev uB (d i:Nat)(t:ak)(e:Nat)(v to:V)(tl:List (ak×V)):Fm:=fm xR ([(sl "source",.ref i),(sl "text",.str t),(sl "events",.ref e),(sl "value",v),(sl "told",to)]++tl) d
abbrev Yh (d i:Nat)(t:ak)(e:Nat)(v to:V)(tl:List (ak×V))(k n:Nat):Jb:=.fo (uB d i t e v to tl) (lG (dC xR).body).1 (.cm k n) (lG (dC xR).body).2
noncomputable def Oi (tl:List (ak×V)):Prop:=tl=[]\/∃x y,tl=[(sl "turn",x),(sl "part",y)]
theorem Jp {k n:Nat}(σ:Sg)(h:k<n):fB (.cm k n) σ=some (some (.int k,.cm (k+1) n)):=by
 show(if ((k:Nat):Int)<(n:Int) then _ else some none)=_;rw[if_pos (by exact yy.mpr h)]
theorem Km {k n:Nat}(σ:Sg)(h:n<=k):fB (.cm k n) σ=some none:=by
 show(if ((k:Nat):Int)<(n:Int) then _ else some none)=_;rw[if_neg (by lia)]
theorem Kr:∀(m k:Nat) (t:ak) (aM:List V) (e:Nat) (tl:List (ak×V)) (σ:Sg),n=k+m->dO σ i->e≠i->ay σ e=some (.list aM)->(aa t).length+20*m<=4000->aM.length+4*m<=1000->Oi tl ->
 ∃L e' aj fN,L.length=m/\(∀p∈L,p∈jZ)/\e'≠i/\Ext i σ aj/\ay aj e'=some (.list (nz aM L))/\Oi fN/\bp aR (bJ G) (Yh (d+4) i t e v to tl k n) σ (.ok (.f .next (uB (d+4) i (ny t L) e' v to fN))) aj
 | 0,k,t,aM,e,tl,σ,hn,hs,E0,he,h1,h2,ht=>by
  refine(BB [] e σ tl rfl (λp h=>(by cases h)) E0 (Ext.uy hs) he ht ?_);obtain nx:=Km (k:=k) (n:=n) σ (hZ hn);refine aG ht ?_ (rp ?_)
  ·rintro rfl;exact aK 60 [.go,.n none] (λz=>ae nx z)
  ·clear ht;rintro x y rfl;exact aK 60 [.go,.n none] (λz=>ae nx z)
 |m+1,k,t,aM,e,tl,σ,hn,hs,E0,he,h1,h2,ht=>by
  refine jU (Qa (G:=G) (d:=d) hs) ?_;rintro pt pe e1 bj hp L6 gg tj ev;obtain nx:=Jp (k:=k) (n:=n) σ (Hh (hZ (eG hn)));obtain pl:=ym _ hp;dsimp only at pl;obtain a1:=lE (a:=t) (b:=pt) bj (by lia);obtain a2:=add_list (gg.get he E0) tj (by lia);obtain il:= gg.src.lt;refine BA (Kr (d:=d) (i:=i) (n:=n) (v:=v) (to:=to) m (k+1) (bB t pt) (aM++pe) bj.length [(sl "turn",.int k),(sl "part",.tup [.str pt,.ref e1])] (bj++[.list (aM++pe)]) (by lia) (gg.src.app _) (i5 (iE il)) (cV _ _) (by rw[gu];lia) (by rw[bk];lia) (.inr (d7 _ _ rfl))) ?_;rintro L e' aj fN hL xv WN nF fO pG NZ;refine(BB ((pt,pe)::L) e' aj fN (by rw[dJ,hL]) (λp h=>?_) WN ((gg.trans (Ext.app gg.src _)).trans nF) fO pG ?_)
  ·refine aG (cU.mp h) ?_ ?_
   ·rintro rfl;exact hp
   ·rintro h;exact xv p h
  ·refine aG ht ?_ (rp ?_)
   ·rintro rfl;exact aK 60 [.go,.n (some (.int k,.cm (k+1) n)),.a (.ok (.tup [.str pt,.ref e1])) bj,.o (.str (bB t pt)),.a (.ok (.ref bj.length)) (bj++[.list (aM++pe)]),.j (.ok (.f .next (uB (d+4) i (ny (bB t pt) L) e' v to fN))) aj] (λz=>ae nx (ae ev (ae a1 (ae a2 (ae NZ z)))))
   ·clear ht;rintro x y rfl;exact aK 60 [.go,.n (some (.int k,.cm (k+1) n)),.a (.ok (.tup [.str pt,.ref e1])) bj,.o (.str (bB t pt)),.a (.ok (.ref bj.length)) (bj++[.list (aM++pe)]),.j (.ok (.f .next (uB (d+4) i (ny (bB t pt) L) e' v to fN))) aj] (λz=>ae nx (ae ev (ae a1 (ae a2 (ae NZ z)))))
structure Doc where
 head:ak×List V
 ai:Bool
 val:ak×V
 parts:List (ak×List V)
 tail:ak×List V
structure Doc.Ok (D:Doc):Prop where
 head:D.head∈qx
 val:D.val∈sG
 len:D.parts.length<=3
 parts:∀p∈D.parts,p∈jZ
 tail:D.tail∈ua
noncomputable def Doc.top (D:Doc):ak:=bB (bB (bB (dw D.head D.ai).1 (sl "<a")) D.val.1) (sl ">")
noncomputable def Doc.fk (D:Doc):ak:=ny D.top D.parts
noncomputable def Doc.text (D:Doc):ak:=bB (bB D.fk (sl "</a >")) D.tail.1
noncomputable def Doc.aM (D:Doc):List V:=nz ((dw D.head D.ai).2++[.tup [.str (sl "start"),.str (sl "a"),D.val.2]]) D.parts++[.tup [.str (sl "end"),.str (sl "a")]]++D.tail.2
noncomputable def Ec:List V:=sG.map λp=>.tup [.str p.1,p.2]
theorem len_str (σ:Sg)(h:(aa t).length<=8192):cw .len [.str t] σ=some (.ok (.int (aa t).length),σ):=by
 show(match Zq.fits (aa t).length with|true=>rt (V.int (.ofNat (aa t).length))|false=>no) σ=_;rw[iI (by exact bC h (cJ 8192 16769024))];rfl
theorem Cq (h:p∈qx):(aa (dw p ai).1).length<=84/\(dw p ai).2.length<=3:=by
 obtain hl:=Cb _ h;induction ai with
 |false=>exact⟨by show(aa p.1).length<=_;lia,by show p.2.length<=_;lia⟩
 |true =>
  constructor
  ·show(aa (bB (bB (bB p.1 (sl "<!DOCTYPE a [")) (sl "<!--]>-->")) (sl "]>"))).length<=_;rw[gu,gu,gu];show _+13+9+2<=_;lia
  ·show(p.2++[ju]).length<=_;rw[bk];show _+1<=_;lia
theorem Qx (hs:dO σ i):∃D aj r e,Doc.Ok D/\Ext i σ aj/\r≠i/\e≠i/\ay aj r=some (.list [.str D.text,.ref e,.int (aa D.fk).length])/\ay aj e=some (.list D.aM)/\bp aR (bJ G) (.ca (d+5) (.fn 1067) [.ref i]) σ (.ok (.v (.ref r))) aj:=by
 refine jU (Qn (G:=G) (d:=d) hs) ?_;rintro p ai e1 bj hp L6 gg tj NW;have sX:=Cq (ai:=ai) hp;have s1:=gg.src;obtain l1:= s1.lt;refine dG (BU (G:=G) (d:=d+1) (t:=bj.length) (l:=Ec) (σ:=bj++[.list Ec]) (s1.app _) (cV _ _) (i5 (iE l1)) (by intro q;exact nC gq q rfl) (by decide)) ?_;rintro k vv aY hk jg jx;obtain⟨q,hq,rfl⟩:∃q,q∈sG/\vv=.tup [.str q.1,q.2]:=by
  have af:k=0\/k=1:=by have af:=bK hk;have af:Ec.length=2:=rfl;lia
  refine aG af ?_ ?_
  ·clear af;rintro rfl;(clear jx;refine aT hk ?_);exact(aP _ fJ rfl)
  ·clear af;rintro rfl;(refine aT hk ?_);exact(aP _ (jj _ fJ) rfl)
 obtain hv:=Ji _ hq;obtain s2:=jg.src;obtain l2:=s2.lt;have Aq:=(Ext.app s1 _).trans jg;obtain Nh:=Aq.get tj L6;obtain a1:=lE (a:=(dw p ai).1) (b:=sl "<a") aY (by show _+2<=_;lia);have a2:=lE (a:=bB (dw p ai).1 (sl "<a")) (b:=q.1) aY (by rw[gu];show _+2+_<=_;lia);have a3:=lE (a:=bB (bB (dw p ai).1 (sl "<a")) q.1) (b:=sl ">") aY (by rw[gu,gu];show _+2+_+1<=_;lia);obtain g1: ay (aY++[O.list [.tup [.str (sl "start"),.str (sl "a"),q.2]]]) e1=some (.list (dw p ai).2):=by rw[dB (bK Nh)];exact Nh
 have a4:=add_list g1 (cV aY (O.list [.tup [.str (sl "start"),.str (sl "a"),q.2]])) (by simp;lia);generalize Mv:aY++[O.list [.tup [.str (sl "start"),.str (sl "a"),q.2]]]++[.list ((dw p ai).2++[.tup [.str (sl "start"),.str (sl "a"),q.2]])]=eX at a4;have tq:(aY++[O.list [V.tup [.str (sl "start"),.str (sl "a"),q.2]]]).length=aY.length+1:=by simp
 rw[tq]at a4;have s8:Ext i aY eX:=by rw[<- Mv,bM];exact Ext.app s2 _
 have e3: ay eX (aY.length+1)=some (.list ((dw p ai).2++[.tup [.str (sl "start"),.str (sl "a"),q.2]])):=by
  have af:=cV (aY++[O.list [V.tup [.str (sl "start"),.str (sl "a"),q.2]]]) (O.list ((dw p ai).2++[.tup [.str (sl "start"),.str (sl "a"),q.2]]));rw[Mv,tq]at af;exact af
 refine dT (tM (G:=G) (d:=d+2) (top:=4) s8.src (vA (4-kC 0))) ?_;rintro r dz AM hr4 Gv tk;refine oE (u6 AM) ?_;rintro n rfl;have aaj:(aa (bB (bB (bB (dw p ai).1 (sl "<a")) q.1) (sl ">"))).length<=107:=by
  rw[gu,gu,gu];show _+2+_+1<=_;lia
 obtain he0:((dw p ai).2++[V.tup [.str (sl "start"),.str (sl "a"),q.2]]).length<=4:=by rw[bk];show _+1<=_;lia
 refine BA (Kr (G:=G) (d:=d) (i:=i) (n:=n) (v:=.str q.1) (to:=q.2) n 0 (bB (bB (bB (dw p ai).1 (sl "<a")) q.1) (sl ">")) ((dw p ai).2++[.tup [.str (sl "start"),.str (sl "a"),q.2]]) (aY.length+1) [] dz (eG (rM n)) Gv.src (i5 (W.ktu_ne 1 l2)) (Gv.get e3 (i5 (W.ktu_ne 1 l2))) (by lia) (by lia) (.inl rfl)) ?_;rintro L e5 jA fN hL xv XI E4 YN Oo MP;obtain GR:=I4 L (bB (bB (bB (dw p ai).1 (sl "<a")) q.1) (sl ">")) xv;obtain hEl:=Cu L ((dw p ai).2++[V.tup [.str (sl "start"),.str (sl "a"),q.2]]) xv;generalize hT:ny (bB (bB (bB (dw p ai).1 (sl "<a")) q.1) (sl ">")) L=T at *;generalize hE:nz ((dw p ai).2++[V.tup [.str (sl "start"),.str (sl "a"),q.2]]) L=E at *;obtain ln:=len_str jA (t:=T) (by lia);refine jU (Dh (G:=G) (d:=d+1) (L:=ua) E4.src (by intro q;exact nC gq q rfl) (by decide)) ?_;rintro tt te e6 ez MQ Xz AN Zr Na;obtain ZA:=yn _ MQ;dsimp only at ZA;obtain l6:=AN.src.lt;obtain b1:=lE (a:=T) (b:=sl "</a >") ez (by show _+5<=_;lia);have b2:=lE (a:=bB T (sl "</a >")) (b:=tt) ez (by rw[gu];show _+5+_<=_;lia);obtain g6:=AN.get YN XI;obtain g7: ay (ez++[O.list [.tup [.str (sl "end"),.str (sl "a")]]]) e5=some (.list E):=by rw[dB (bK g6)];exact g6
 have b3:=add_list g7 (cV ez (O.list [.tup [.str (sl "end"),.str (sl "a")]])) (by simp;lia);have GL:(ez++[O.list [V.tup [.str (sl "end"),.str (sl "a")]]]).length=ez.length+1:=by simp
 rw[GL]at b3;generalize ET:ez++[O.list [.tup [.str (sl "end"),.str (sl "a")]]]++[.list (E++[.tup [.str (sl "end"),.str (sl "a")]])]=de at b3;have pF:Ext i ez de:=by rw[<- ET,bM];exact Ext.app AN.src _
 obtain e7: ay de (ez.length+1)=some (.list (E++[.tup [.str (sl "end"),.str (sl "a")]])):=by
  have af:=cV (ez++[O.list [V.tup [.str (sl "end"),.str (sl "a")]]]) (O.list (E++[.tup [.str (sl "end"),.str (sl "a")]]));rw[ET,GL]at af;exact af
 obtain l7:de.length=ez.length+2:=by rw[<- ET];simp
 have b4:=add_list e7 (pF.get Zr Xz) (by rw[bk];show _+1+_<=_;lia);obtain DD: Doc.Ok ⟨p,ai,q,L,(tt,te)⟩:=⟨hp,hq,by show L.length<=3;lia,xv,MQ⟩;refine(BB ⟨p,ai,q,L,(tt,te)⟩ (de++[.list (E++[.tup [.str (sl "end"),.str (sl "a")]]++te)]++[.list [.str (bB (bB T (sl "</a >")) tt),.ref de.length,.int (aa T).length]]) ((de++[O.list (E++[V.tup [.str (sl "end"),.str (sl "a")]]++te)]).length) de.length DD ?_ (by simp;lia) (by lia) ?_ ?_ ?_)
 ·have af:=((((gg.trans Aq).trans s8).trans Gv).trans E4).trans (AN.trans pF);exact af.trans (by rw[bM];exact Ext.app pF.src _)
 ·rw[cV,<- hT];rfl
 ·have af:=cV de (O.list (E++[V.tup [.str (sl "end"),.str (sl "a")]]++te));rw[dB (bK af),af,<- hE];rfl
 ·obtain rn:(0:Int)<=(n:Int)/\(n:Int)<=16777216:=by lia
  refine aG Oo ?_ (rp ?_)
  ·rintro rfl;exact aK 100 [.go,.a (.ok (.tup [.str (dw p ai).1,.ref e1])) bj,.a (.ok (.tup [.str q.1,q.2])) aY,.o (.str (bB (dw p ai).1 (sl "<a"))),.o (.str (bB (bB (dw p ai).1 (sl "<a")) q.1)),.o (.str (bB (bB (bB (dw p ai).1 (sl "<a")) q.1) (sl ">"))),.a (.ok (.ref (aY.length+1))) eX,.a (.ok (.int n)) dz,.j (.ok (.f .next (uB (d+4) i T e5 (.str q.1) q.2 []))) jA,.o (.int (aa T).length),.a (.ok (.tup [.str tt,.ref e6])) ez,.o (.str (bB T (sl "</a >"))),.o (.str (bB (bB T (sl "</a >")) tt)),.a (.ok (.ref (ez.length+1))) de,.a (.ok (.ref de.length)) (de++[.list (E++[.tup [.str (sl "end"),.str (sl "a")]]++te)])] (λz=>ae NW (ae jx (ae a1 (ae a2 (ae a3 (ae a4 (ae tk (ae rn (ae MP (ae ln (ae Na (ae b1 (ae b2 (ae b3 (ae b4 z)))))))))))))))
  ·clear Oo;rintro x y rfl;exact aK 100 [.go,.a (.ok (.tup [.str (dw p ai).1,.ref e1])) bj,.a (.ok (.tup [.str q.1,q.2])) aY,.o (.str (bB (dw p ai).1 (sl "<a"))),.o (.str (bB (bB (dw p ai).1 (sl "<a")) q.1)),.o (.str (bB (bB (bB (dw p ai).1 (sl "<a")) q.1) (sl ">"))),.a (.ok (.ref (aY.length+1))) eX,.a (.ok (.int n)) dz,.j (.ok (.f .next (uB (d+4) i T e5 (.str q.1) q.2 [(sl "turn",x),(sl "part",y)]))) jA,.o (.int (aa T).length),.a (.ok (.tup [.str tt,.ref e6])) ez,.o (.str (bB T (sl "</a >"))),.o (.str (bB (bB T (sl "</a >")) tt)),.a (.ok (.ref (ez.length+1))) de,.a (.ok (.ref de.length)) (de++[.list (E++[.tup [.str (sl "end"),.str (sl "a")]]++te)])] (λz=>ae NW (ae jx (ae a1 (ae a2 (ae a3 (ae a4 (ae tk (ae rn (ae MP (ae ln (ae Na (ae b1 (ae b2 (ae b3 (ae b4 z)))))))))))))))
theorem VN (ai:Bool)(sz:Nat)(p:Int):hV ai 2 sz (sl "reference") (sl "&lt;") p [.tup [.str (sl "text"),.str (sl "<")]] 2 sz:=λps T pl h Z=>ij (m:=200) (by induction ai<;>kernel_rfl)
theorem U1 (ai:Bool)(sz:Nat)(p:Int):hV ai 2 sz (sl "reference") (sl "&#x41;") p [.tup [.str (sl "text"),.str (sl "A")]] 2 sz:=λps T pl h Z=>ij (m:=200) (by induction ai<;>kernel_rfl)
theorem Vv (ai:Bool)(sz:Nat)(p:Int):hV ai 2 sz (sl "cdata") (sl "<![CDATA[<]]]>") p [.tup [.str (sl "text"),.str (sl "<]")]] 2 sz:=λps T pl h Z=>ij (m:=200) (by induction ai<;>kernel_rfl)
theorem Wa (ai:Bool)(sz:Nat)(p:Int):hV ai 2 sz (sl "comment") (sl "<!--k->-->") p [.tup [.str (sl "comment"),.str (sl "k->")]] 2 sz:=λps T pl h Z=>ij (m:=200) (by induction ai<;>kernel_rfl)
theorem We (ai:Bool)(sz:Nat)(p:Int):hV ai 2 sz (sl "instruction") (sl "<?t d>?>") p [.tup [.str (sl "instruction"),.str (sl "t"),.str (sl "d>")]] 2 sz:=λps T pl h Z=>ij (m:=200) (by induction ai<;>kernel_rfl)
theorem WA (ai:Bool)(sz:Nat)(p:Int):hV ai 2 sz (sl "start") (sl "<c d=\"'>\"/>") p [.tup [.str (sl "start"),.str (sl "c"),.tup [.tup [.str (sl "d"),.str (sl "'>")]]],.tup [.str (sl "end"),.str (sl "c")]] 2 sz:=λps T pl h Z=>ij (m:=200) (by induction ai<;>kernel_rfl)
theorem VY (ai:Bool)(sz:Nat)(p:Int):hV ai 2 sz (sl "end") (sl "</a >") p [.tup [.str (sl "end"),.str (sl "a")]] 3 sz:=λps T pl h Z=>ij (m:=200) (by induction ai<;>kernel_rfl)
theorem V2 (ai:Bool)(sz:Nat)(p:Int):hV ai 3 sz (sl "comment") (sl "<!--f-->") p [.tup [.str (sl "comment"),.str (sl "f")]] 3 sz:=λps T pl h Z=>ij (m:=200) (by induction ai<;>kernel_rfl)
theorem WD (ai:Bool)(p:Int):hV ai 2 0 (sl "reference") (sl "&e;") p [.tup [.str (sl "start"),.str (sl "b"),.tup []],.tup [.str (sl "text"),.str (sl "z")],.tup [.str (sl "end"),.str (sl "b")],.tup [.str (sl "text"),.str (sl "w")]] 2 9:=λps T pl h Z=>ij (m:=200) (by induction ai<;>kernel_rfl)
theorem Vl (ai:Bool)(p:Int):hV ai 2 9 (sl "reference") (sl "&e;") p [.tup [.str (sl "start"),.str (sl "b"),.tup []],.tup [.str (sl "text"),.str (sl "z")],.tup [.str (sl "end"),.str (sl "b")],.tup [.str (sl "text"),.str (sl "w")]] 2 18:=λps T pl h Z=>ij (m:=200) (by induction ai<;>kernel_rfl)
theorem Ub (ai:Bool)(p:Int):hV ai 2 18 (sl "reference") (sl "&e;") p [.tup [.str (sl "start"),.str (sl "b"),.tup []],.tup [.str (sl "text"),.str (sl "z")],.tup [.str (sl "end"),.str (sl "b")],.tup [.str (sl "text"),.str (sl "w")]] 2 27:=λps T pl h Z=>ij (m:=200) (by induction ai<;>kernel_rfl)
theorem VW (ai:Bool)(p:Int):hV ai 0 0 (sl "start") (sl "<a>") p [.tup [.str (sl "start"),.str (sl "a"),.tup []]] 2 0:=λps T pl h Z=>ij (m:=200) (by induction ai<;>kernel_rfl)
theorem Ul (ai:Bool)(p:Int):hV ai 0 0 (sl "start") (sl "<a b='x&#38;y'>") p [.tup [.str (sl "start"),.str (sl "a"),.tup [.tup [.str (sl "b"),.str (sl "x&y")]]]] 2 0:=λps T pl h Z=>ij (m:=200) (by induction ai<;>kernel_rfl)
theorem Lb (ai:Bool)(p:Int):hV ai 1 0 (sl "start") (sl "<a>") p [.tup [.str (sl "start"),.str (sl "a"),.tup []]] 2 0:=λps T pl h Z=>ij (m:=200) (by induction ai<;>kernel_rfl)
theorem KP (ai:Bool)(p:Int):hV ai 1 0 (sl "start") (sl "<a b='x&#38;y'>") p [.tup [.str (sl "start"),.str (sl "a"),.tup [.tup [.str (sl "b"),.str (sl "x&y")]]]] 2 0:=λps T pl h Z=>ij (m:=200) (by induction ai<;>kernel_rfl)
theorem KL (p:Int):hV false 0 0 (sl "instruction") (sl "<?xml version='1.0'?>") p [.tup [.str (sl "declaration"),.str (sl "1.0"),.none,.none]] 1 0:=λps T pl h Z=>ij (m:=200) (by kernel_rfl)
theorem SU (p:Int):iO true ⟨0,false,0⟩ (sl "instruction") (sl "<?xml version='1.0'?>") p (some ([.tup [.str (sl "declaration"),.str (sl "1.0"),.none,.none]],⟨1,false,0⟩)):=VL (λps T pl h=>by kernel_rfl) rfl
theorem KV (p:Int):iO true ⟨0,false,0⟩ (sl "doctype") (sl "<!DOCTYPE a [<!--]>-->]>") p (some ([ju],⟨1,true,0⟩)):=Lr (λps T pl h=>by kernel_rfl) rfl
theorem KH (p:Int):iO true ⟨1,false,0⟩ (sl "doctype") (sl "<!DOCTYPE a [<!--]>-->]>") p (some ([ju],⟨1,true,0⟩)):=Lr (λps T pl h=>by kernel_rfl) rfl
variable {ai:Bool}
theorem Wx.tk {st sz bD cb:Nat}(h1:d9 (aa s) k)(h2:st≠3)(h3:aM.length<=4)(h4:aM.all dH=true)(hr:dj aM=true)(h5:∀p,hV ai st sz k s p aM bD cb)(w:Wx ai ai m ⟨bD,ai,cb⟩ A F):Wx ai ai m ⟨st,ai,sz⟩ (.tok (aa s) k::A) (fl aM++F) :=
 .tok h1 (λZ=>h2) (λh=>h) h3 h4 (λp=>(h5 p).call hr) w
theorem qo:∀(a b:List At),flat (a++b)=flat a++flat b
 |[],b=>rfl
 |.tok s k::a,b=>by show s++flat (a++b)=(s++flat a)++flat b;rw[qo a b,bM]
 |.chr c::a,b=>congrArg (c::·) (qo a b)
structure PA (ai:Bool)(j:Nat)(p:ak×List V)(Ap:List At)(j':Nat):Prop where
 le:j'<=j+1
 fl:flat Ap=nl (aa p.1)
 wx:∀(m:Md) (A:List At) (F:List Fv),Wx ai ai m ⟨2,ai,9*j'⟩ A F->Wx ai ai m ⟨2,ai,9*j⟩ (Ap++A) (Zq.fl p.2++F)
theorem P2 (h:p∈jZ)(hj:j<=2):∃Ap j',PA ai j p Ap j':=by
 simp only[jZ,cU,vn,or_false]at h;rcases h with rfl|rfl|rfl|rfl|rfl|rfl|rfl|rfl|rfl
 ·exact⟨[.chr 112,.chr 93,.chr 93],j,by lia,by kernel_rfl,λm A F w=>.chr rfl (by decide) (.chr rfl (by decide) (.chr rfl (by decide) w))⟩
 ·exact⟨[.chr 113,.chr 10,.chr 114,.chr 10],j,by lia,by kernel_rfl,λm A F w=>.chr rfl (by decide) (.chr rfl (by decide) (.chr rfl (by decide) (.chr rfl (by decide) w)))⟩
 ·exact⟨[.tok (aa (sl "&lt;")) (sl "reference")],j,by lia,by kernel_rfl,λm A F w=>Wx.tk WB (by decide) (by decide) (by kernel_rfl) (by kernel_rfl) (λp=>VN ai (9*j) p) w⟩
 ·exact⟨[.tok (aa (sl "&#x41;")) (sl "reference")],j,by lia,by kernel_rfl,λm A F w=>Wx.tk U3 (by decide) (by decide) (by kernel_rfl) (by kernel_rfl) (λp=>U1 ai (9*j) p) w⟩
 ·refine⟨[.tok (aa (sl "&e;")) (sl "reference")],j+1,by lia,by kernel_rfl,λm A F w=>?_⟩;obtain af: j=0\/j=1\/j=2:=by lia
  focus(refine pS af ?_ ?_ ?_;clear af;rintro rfl;rotate_left;clear af;rintro rfl;rotate_left;clear af;rintro rfl;rotate_left)
  ·exact Wx.tk Ex (by decide) (by decide) (by kernel_rfl) (by kernel_rfl) (λp=>WD ai p) w
  ·exact Wx.tk Ex (by decide) (by decide) (by kernel_rfl) (by kernel_rfl) (λp=>Vl ai p) w
  ·exact Wx.tk Ex (by decide) (by decide) (by kernel_rfl) (by kernel_rfl) (λp=>Ub ai p) w
 ·exact⟨[.tok (aa (sl "<![CDATA[<]]]>")) (sl "cdata")],j,by lia,by kernel_rfl,λm A F w=>Wx.tk VO (by decide) (by decide) (by kernel_rfl) (by kernel_rfl) (λp=>Vv ai (9*j) p) w⟩
 ·exact⟨[.tok (aa (sl "<!--k->-->")) (sl "comment")],j,by lia,by kernel_rfl,λm A F w=>Wx.tk VU (by decide) (by decide) (by kernel_rfl) (by kernel_rfl) (λp=>Wa ai (9*j) p) w⟩
 ·exact⟨[.tok (aa (sl "<?t d>?>")) (sl "instruction")],j,by lia,by kernel_rfl,λm A F w=>Wx.tk Vq (by decide) (by decide) (by kernel_rfl) (by kernel_rfl) (λp=>We ai (9*j) p) w⟩
 ·exact⟨[.tok (aa (sl "<c d=\"'>\"/>")) (sl "start")],j,by lia,by kernel_rfl,λm A F w=>Wx.tk V7 (by decide) (by decide) (by kernel_rfl) (by kernel_rfl) (λp=>WA ai (9*j) p) w⟩
noncomputable def lH:List (ak×List V)->List Nat
 |[]=>[]
 |p::r=>aa p.1++lH r
noncomputable def lU:List (ak×List V)->List V
 |[]=>[]
 |p::r=>p.2++lU r
theorem Cr:∀(L:List (ak×List V)) (t:ak),aa (ny t L)=aa t++lH L
 |[],t=>by show aa t=aa t++[];rw[di]
 |p::r,t=>by
  show aa (ny (bB t p.1) r)=_;rw[Cr r];show(aa t++aa p.1)++lH r=aa t++(aa p.1++lH r);rw[bM]
theorem C4:∀(L:List (ak×List V)) (l:List V),nz l L=l++lU L
 |[],l=>by show l=l++[];rw[di]
 |p::r,l=>by
  show nz (l++p.2) r=_;rw[C4 r];show(l++p.2)++lU r=l++(p.2++lU r);rw[bM]
noncomputable def uv (R:List Nat):Prop:=∀r,R≠10::r
theorem Rd (h:p∈jZ)(R:List Nat):uv (aa p.1++R):=by
 obtain af: ∀p∈jZ,(match aa p.1 with|c::_=>!bx c 10|[]=>false)=true:=by decide
 obtain h:=af p h;induction hp:aa p.1 using aQ with
 |nil=>rw[hp]at h;exact fT h
 |cons c r =>
  rw[hp]at h;dsimp only at h;intro r' e;injection e with e1 e2
  clear hp;subst e1;exact fT h
theorem HA:∀(L:List (ak×List V)) (j:Nat),(∀p∈L,p∈jZ)->j+L.length<=3->∃B j',(∀R,uv R->nl (lH L++R)=flat B++nl R)/\(∀R,uv R->uv (lH L++R)) /\
 ∀(m:Md) (A:List At) (F:List Fv),Wx ai ai m ⟨2,ai,9*j'⟩ A F->Wx ai ai m ⟨2,ai,9*j⟩ (B++A) (fl (lU L)++F)
 |[],j,_,_=>(ey [] j (λR h=>rfl) (λR h=>h) (λm A F w=>w))
 |p::r,j,h,hj=>by
  rw[dJ]at hj;obtain hp:=h p fJ;refine fE (P2 (ai:=ai) hp (j:=j) (by lia)) ?_;rintro Ap j1 pa;obtain hle:= pa.le;refine cj (HA r j1 (λq hq=>h q (jj _ hq)) (by lia)) ?_;rintro B j' h1 h2 h3;refine(ey (Ap++B) j' (λR hR=>?_) (λR hR=>?_) (λm A F w=>?_))
  ·show nl ((aa p.1++lH r)++R)=_;rw[bM,mY _ (aa p.1) _ (bc _) (.inr (h2 R hR)),h1 R hR,qo,pa.fl,bM]
  ·show uv ((aa p.1++lH r)++R);rw[bM];exact Rd hp _
  ·obtain af:= pa.wx m (B++A) (fl (lU r)++F) (h3 m A F w);rw[bM];show Wx ai ai m _ _ (fl (p.2++lU r)++F);rw[jY,bM];exact af
structure TA (ai:Bool)(p:ak×List V)(q:ak×V)(B:List At):Prop where
 nl:∀R,nl (aa (bB (bB (bB (dw p ai).1 (sl "<a")) q.1) (sl ">"))++R)=flat B++Zq.nl R
 wx:∀(m:Md) (A:List At) (F:List Fv),Wx ai ai m ⟨2,ai,0⟩ A F->Wx ai ai m ⟨0,false,0⟩ (B++A) (fl ((dw p ai).2++[.tup [.str (sl "start"),.str (sl "a"),q.2]])++F)
theorem qv (h1:ru x=false)(h2:nl x=flat B)(R:List Nat):nl (x++R)=flat B++nl R:=by
 rw[mY _ x R (bc _) (.inl λq=>by rw[vX.mpr q]at h1;exact tF h1),h2]
theorem Ri (hp:p∈qx)(hq:q∈sG):∃B,TA ai p q B:=by
 simp only[qx,cU,vn,or_false]at hp;simp only[sG,cU,vn,or_false]at hq;obtain lN: ∀(c:Nat) (ai:Bool),c≠3->c≠3:=λZ Z h=>h;induction ai with
 |false =>
  focus(refine aG hp ?_ ?_;clear hp;rintro rfl;rotate_left;clear hp;rintro rfl;rotate_left)<;>focus(refine aG hq ?_ ?_;clear hq;rintro rfl;rotate_left;clear hq;rintro rfl;rotate_left)
  ·exact⟨[.tok (aa (sl "<a>")) (sl "start")],λR=>qv (by kernel_rfl) (by kernel_rfl) R,λm A F w=>Wx.tk ES (by decide) (by decide) (by kernel_rfl) (by kernel_rfl) (λp=>VW false p) w⟩
  ·exact⟨[.tok (aa (sl "<a b='x&#38;y'>")) (sl "start")],λR=>qv (by kernel_rfl) (by kernel_rfl) R,λm A F w=>Wx.tk DN (by decide) (by decide) (by kernel_rfl) (by kernel_rfl) (λp=>Ul false p) w⟩
  ·exact⟨[.tok (aa (sl "<?xml version='1.0'?>")) (sl "instruction"),.tok (aa (sl "<a>")) (sl "start")],λR=>qv (by kernel_rfl) (by kernel_rfl) R,λm A F w=>Wx.tk (ai:=false) (aM:=[.tup [.str (sl "declaration"),.str (sl "1.0"),.none,.none]]) Dt (by decide) (by decide) (by kernel_rfl) (by kernel_rfl) (λp=>KL p) (Wx.tk ES (by decide) (by decide) (by kernel_rfl) (by kernel_rfl) (λp=>Lb false p) w)⟩
  ·exact⟨[.tok (aa (sl "<?xml version='1.0'?>")) (sl "instruction"),.tok (aa (sl "<a b='x&#38;y'>")) (sl "start")],λR=>qv (by kernel_rfl) (by kernel_rfl) R,λm A F w=>Wx.tk (ai:=false) (aM:=[.tup [.str (sl "declaration"),.str (sl "1.0"),.none,.none]]) Dt (by decide) (by decide) (by kernel_rfl) (by kernel_rfl) (λp=>KL p) (Wx.tk DN (by decide) (by decide) (by kernel_rfl) (by kernel_rfl) (λp=>KP false p) w)⟩
 |true =>
  obtain dt:∀(m:Md) (A:List At) (F:List Fv) (s:Nat),(∀p,iO true ⟨s,false,0⟩ (sl "doctype") (sl "<!DOCTYPE a [<!--]>-->]>") p (some ([ju],⟨1,true,0⟩)))->s≠3->Wx true true m ⟨1,true,0⟩ A F->Wx true true m ⟨s,false,0⟩ (.tok (aa (sl "<!DOCTYPE a [<!--]>-->]>")) (sl "doctype")::A) (fl [ju]++F):=λm A F s hc h w =>
   .tok Ww (λZ=>h) (λh=>by exact tF h) (by decide) (by kernel_rfl) hc w
  obtain xm:∀(m:Md) (A:List At) (F:List Fv),Wx true true m ⟨1,false,0⟩ A F->Wx true true m ⟨0,false,0⟩ (.tok (aa (sl "<?xml version='1.0'?>")) (sl "instruction")::A) (fl [.tup [.str (sl "declaration"),.str (sl "1.0"),.none,.none]]++F):=λm A F w =>
   .tok Dt (λZ=>by show 0≠3;decide) (λh=>by exact tF h) (by decide) (by kernel_rfl) (λp=>SU p) w
  obtain sa:∀(m:Md) (A:List At) (F:List Fv),Wx true true m ⟨2,true,0⟩ A F->Wx true true m ⟨1,true,0⟩ (.tok (aa (sl "<a>")) (sl "start")::A) (fl [.tup [.str (sl "start"),.str (sl "a"),.tup []]]++F):=λm A F w =>
   Wx.tk ES (by decide) (by decide) (by kernel_rfl) (by kernel_rfl) (λp=>Lb true p) w
  obtain sb:∀(m:Md) (A:List At) (F:List Fv),Wx true true m ⟨2,true,0⟩ A F->Wx true true m ⟨1,true,0⟩ (.tok (aa (sl "<a b='x&#38;y'>")) (sl "start")::A) (fl [.tup [.str (sl "start"),.str (sl "a"),.tup [.tup [.str (sl "b"),.str (sl "x&y")]]]]++F):=λm A F w =>
   Wx.tk DN (by decide) (by decide) (by kernel_rfl) (by kernel_rfl) (λp=>KP true p) w
  focus(refine aG hp ?_ ?_;clear hp;rintro rfl;rotate_left;clear hp;rintro rfl;rotate_left)<;>focus(refine aG hq ?_ ?_;clear hq;rintro rfl;rotate_left;clear hq;rintro rfl;rotate_left)
  ·exact⟨[.tok (aa (sl "<!DOCTYPE a [<!--]>-->]>")) (sl "doctype"),.tok (aa (sl "<a>")) (sl "start")],λR=>qv (by kernel_rfl) (by kernel_rfl) R,λm A F w=>dt _ _ _ _ KV (by decide) (sa _ _ _ w)⟩
  ·exact⟨[.tok (aa (sl "<!DOCTYPE a [<!--]>-->]>")) (sl "doctype"),.tok (aa (sl "<a b='x&#38;y'>")) (sl "start")],λR=>qv (by kernel_rfl) (by kernel_rfl) R,λm A F w=>dt _ _ _ _ KV (by decide) (sb _ _ _ w)⟩
  ·exact⟨[.tok (aa (sl "<?xml version='1.0'?>")) (sl "instruction"),.tok (aa (sl "<!DOCTYPE a [<!--]>-->]>")) (sl "doctype"),.tok (aa (sl "<a>")) (sl "start")],λR=>qv (by kernel_rfl) (by kernel_rfl) R,λm A F w=>xm _ _ _ (dt _ _ _ _ KH (by decide) (sa _ _ _ w))⟩
  ·exact⟨[.tok (aa (sl "<?xml version='1.0'?>")) (sl "instruction"),.tok (aa (sl "<!DOCTYPE a [<!--]>-->]>")) (sl "doctype"),.tok (aa (sl "<a b='x&#38;y'>")) (sl "start")],λR=>qv (by kernel_rfl) (by kernel_rfl) R,λm A F w=>xm _ _ _ (dt _ _ _ _ KH (by decide) (sb _ _ _ w))⟩
structure TLA (ai:Bool)(p:ak×List V)(B:List At):Prop where
 nl:flat B=Zq.nl (aa p.1)
 wx:∀sz,Wx ai ai .v ⟨3,ai,sz⟩ B (fl p.2)
 ok:fq B
theorem PX (hp:p∈ua):∃B,TLA ai p B:=by
 simp only[ua,cU,vn,or_false]at hp;focus(refine pS hp ?_ ?_ ?_;clear hp;rintro rfl;rotate_left;clear hp;rintro rfl;rotate_left;clear hp;rintro rfl;rotate_left)
 ·exact⟨[],by kernel_rfl,λsz=>.pj rfl rfl,fq.nil⟩
 ·exact⟨[.chr 10],by kernel_rfl,λsz=>.uX rfl,fq.nil.chr rfl⟩
 ·refine⟨[.tok (aa (sl "<!--f-->")) (sl "comment")],by kernel_rfl,λsz=>?_,fq.nil.tok LM⟩;obtain af: Wx ai ai .v ⟨3,ai,sz⟩ [.tok (aa (sl "<!--f-->")) (sl "comment")] (fl [.tup [.str (sl "comment"),.str (sl "f")]]++[]) :=
   .tok LM (λh=>by exact nC Zq.Md.ctorIdx h rfl) (λh=>h) (by decide) (by kernel_rfl) (λp=>(V2 ai sz p).call (by kernel_rfl)) (.pj rfl rfl)
  rw[di]at af;exact af
theorem R2 (R:List Nat):uv (aa (sl "</a >")++R):=λr e=>by
 obtain af: (aa (sl "</a >")++R)=60::([47,97,32,62]++R):=by kernel_rfl
 rw[af]at e;injection e with e1 _
 exact absurd e1 (by decide)
theorem U0 (R:List Nat):nl (aa (sl "</a >")++R)=aa (sl "</a >")++nl R:=by
 rw[mY _ (aa (sl "</a >")) R (bc _) (.inl λq=>by
  obtain af:= vX.mpr q;rw[show ru (aa (sl "</a >"))=false from by kernel_rfl]at af;exact fT af)]
 rw[show nl (aa (sl "</a >"))=aa (sl "</a >") from by kernel_rfl]
theorem V3 (R:List Nat):nl (93::93::62::R)=93::93::62::nl R:=by
 rw[qI _ (by decide),qI _ (by decide),qI _ (by decide)]
theorem rP {D:Doc}:aa D.text=aa D.top++(lH D.parts++(aa (sl "</a >")++aa D.tail.1)):=by
 show(aa (ny D.top D.parts)++aa (sl "</a >"))++aa D.tail.1=_;rw[Cr];simp only[bM]
theorem qp {D:Doc}:aa D.fk=aa D.top++lH D.parts:=Cr _ _
theorem Ct:∀(L:List (ak×List V)),(∀p∈L,p∈jZ)->(lH L).length<=20*L.length
 |[],_=>by simp[lH]
 |p::r,h=>by
  obtain h1:= Ct r (λq hq=>h q (jj _ hq));obtain h2:= (ym p (h p fJ)).1;show(aa p.1++lH r).length<=_;rw[bk,dJ];lia
theorem J7 {D:Doc}(ok:D.Ok):(aa D.top).length<=107:=by
 obtain h1:= (Cq (ai:=D.ai) ok.head).1;obtain h2:= Ji _ ok.val;show(aa (bB (bB (bB (dw D.head D.ai).1 (sl "<a")) D.val.1) (sl ">"))).length<=_;rw[gu,gu,gu];show _+2+_+1<=_;lia
theorem sZ (x y z t:List V):fl (x++y++z++t)=fl x++(fl y++(fl z++fl t)):=by
 rw[jY (x++y++z),jY (x++y),jY x];simp only[bM]
structure T4 (D:Doc):Prop where
 v:∀ps,ps.length<=40->cat ps=aa D.text->∃es c,ng D.ai ps (some (es,c))/\fl es=fl D.aM/\c.hd=D.ai/\es.all dH=true
 t:∀ps k,ps.length<=40->k<=(aa D.fk).length->cat ps=(aa D.text).take k->ng D.ai ps none
 s:∀ps,ps.length<=40->cat ps=aa D.fk++(93::93::62::(aa (sl "</a >")++aa D.tail.1))->ng D.ai ps none
set_option maxHeartbeats 2000000 in
theorem SW (ok:D.Ok):T4 D:=by
 refine oE (Ri (ai:=D.ai) ok.head ok.val) ?_;rintro B tb;refine cj (HA (ai:=D.ai) D.parts 0 ok.parts (by have af:=ok.len;lia)) ?_;rintro C j' c1 c2 c3;refine oE (PX (ai:=D.ai) ok.tail) ?_;rintro E te;obtain tl:=J7 ok;obtain rl:=Ct D.parts ok.parts;obtain fY:=ok.len;obtain tt:=(yn _ ok.tail).1;obtain Ol:flat (.tok (aa (sl "</a >")) (sl "end")::E)=nl (aa (sl "</a >")++aa D.tail.1):=by
  (rewrite[U0,<- te.nl];try(with_reducible rfl));rfl
 obtain Ez:∀R,nl (aa D.top++R)=flat B++nl R:=tb.nl;obtain w9:∀(m:Md) (A:List At) (F:List Fv),Wx D.ai D.ai m ⟨2,D.ai,9*j'⟩ A F->Wx D.ai D.ai m ⟨0,false,0⟩ (B++(C++A)) (fl ((dw D.head D.ai).2++[.tup [.str (sl "start"),.str (sl "a"),D.val.2]])++(fl (lU D.parts)++F)):=λm A F w=>tb.wx m _ _ (c3 m A F w);obtain XX:=te.ok.tok LL;obtain MI:(aa (sl "</a >")).length=5:=by kernel_rfl
 refine⟨λps bS e=>?_,λps k bS hk e=>?_,λps bS e=>?_⟩
 ·obtain wv: Wx D.ai D.ai .v ⟨2,D.ai,9*j'⟩ (.tok (aa (sl "</a >")) (sl "end")::E) (fl [.tup [.str (sl "end"),.str (sl "a")]]++fl D.tail.2) :=
   Wx.tk LL (by decide) (by decide) (by kernel_rfl) (by kernel_rfl) (λp=>VY D.ai (9*j') p) (te.wx _)
  obtain he: nl (cat ps)++[]=flat (B++(C++.tok (aa (sl "</a >")) (sl "end")::E)):=by
   (rewrite[di,e,rP,Ez,c1 _ (R2 _),qo,qo,Ol];try(with_reducible rfl))
  rcases Dr D.ai D.ai [] (λZ=>rfl) bS he (w9 .v _ _ wv) (by(rewrite[e,rP,bk,bk,bk];try(with_reducible rfl));lia) with ⟨h,_⟩|⟨_,es,c,h1,h2,h3,h4⟩
  ·exact absurd rfl h
  ·refine(dp es c h1 ?_ h3 h4);(rewrite[h2];try(with_reducible rfl));show _=fl (nz ((dw D.head D.ai).2++[.tup [.str (sl "start"),.str (sl "a"),D.val.2]]) D.parts++[.tup [.str (sl "end"),.str (sl "a")]]++D.tail.2);(rewrite[C4,sZ];try(with_reducible rfl))
 ·obtain wt: Wx D.ai D.ai .t ⟨2,D.ai,9*j'⟩ [] []:=.sH (by show 2≠3;decide) (λh=>h);obtain e1:(aa D.text).take k=(aa D.fk).take k:=by
   (rewrite[rP,<- bM,<- qp,OX hk];try(with_reducible rfl))
  refine oE (UT ((aa D.fk).take k) ((aa D.fk).drop k)) ?_;rintro Y hY;rw[tC]at hY;obtain hf: nl (aa D.fk)=flat (B++(C++[])):=by
   obtain af:= c1 [] (λr e=>by exact nC gq e rfl);rw[di,show nl []=[] from rfl,di]at af;(rewrite[qp,Ez,af,di,qo];try(with_reducible rfl))
  obtain he: nl (cat ps)++Y=flat (B++(C++[])):=by(rewrite[e,e1,<- hY,hf];try(with_reducible rfl))
  rcases Dr D.ai D.ai (m:=.t) Y (λh=>absurd rfl h) bS he (w9 .t _ _ wt) (by
   (rewrite[e,e1,pY,qp,bk];try(with_reducible rfl));lia) with ⟨_,h⟩|⟨h,_⟩
  ·exact h
  ·exact nC Zq.Md.ctorIdx h rfl
 ·obtain ws: Wx D.ai D.ai .s ⟨2,D.ai,9*j'⟩ (.chr 93::.chr 93::.chr 62::.tok (aa (sl "</a >")) (sl "end")::E) []:=.here XX;obtain he: nl (cat ps)++[]=flat (B++(C++.chr 93::.chr 93::.chr 62::.tok (aa (sl "</a >")) (sl "end")::E)):=by
   (rewrite[di,e,qp,bM,Ez,c1 _ (λr e=>by cases e),V3,qo,qo,<- Ol];try(with_reducible rfl));rfl
  rcases Dr D.ai D.ai (m:=.s) [] (λZ=>rfl) bS he (w9 .s _ _ ws) (by
   (rewrite[e,qp,bk,bk,dJ,dJ,dJ,bk];try(with_reducible rfl));lia) with ⟨_,h⟩|⟨h,_⟩
  ·exact h
  ·exact nC Zq.Md.ctorIdx h rfl
variable {G:Nat->Option (Nat->List V->Mo V)}
structure Cp where
 elt:Expr
 tg:Expr
 ifs:List Expr
 sc:fh
noncomputable def FK (e:Expr):Option Cp:=eD e none (tP:=λelt gs sc Z=>match gs with
 |[⟨nX,iter,ifs,0⟩]=>some ⟨elt,nX,ifs,sc⟩
 |_=>none)
noncomputable def AX (e:Expr):Option Cp:=eD e none (tP:=λa b c d=>FK (.ListComp a b c d)) (we:=λZ Z r Z=>FK r) (qC:=λZ av Z Z=>(wR av).bind FK)
noncomputable def Zh (s:bO):Option Cp:=sD s none (vZ:=λZ x Z=>AX x) (v8:=λx Z=>x.bind AX)
noncomputable def Aj (k:Nat)(b:List bO):Cp:=match (ay b k).bind Zh with
 |some c=>c
 |none=>⟨.Name (sl "") ⟨0,0,0,0⟩,.Name (sl "") ⟨0,0,0,0⟩,[],(dC qk).scope⟩
noncomputable def qU (d c0 c1 c2:Nat):Fm:={sc:=(dC qk).scope,loc:=[],cz:=[(sl "source",c0),(sl "text",c1),(sl "places",c2)],d:=d,ro:=(dC qk).ro}
noncomputable def wM (k d c0 c1 c2:Nat)(loc:List (ak×V)):Fm:={sc:=(Aj k (dC qk).body).sc,loc:=loc,cz:=[(sl "source",c0),(sl "text",c1),(sl "places",c2)],d:=d,ro:=[]}
abbrev EJ (k d c0 c1 c2:Nat)(loc:List (ak×V))(it:It)(aA:Nat):Jb:=.cp (wM k d c0 c1 c2 loc) (Aj k (dC qk).body).elt (Aj k (dC qk).body).tg (Aj k (dC qk).body).ifs it aA
theorem qG (e:ig aR U x=bd (aX (some c)) λi=>gt λσ=>match ay σ i with
 |some (.cell v)=>v
 |_=>none) (h:ay σ c=some (.cell (some v))):ig aR U x σ=some (.ok v,σ):=by
 rw[e];show gt (λσ=>match ay σ c with
  |some (.cell v)=>v
  |_=>none) σ=_
 unfold gt;dsimp only;rw[h]
structure cL (i a:Nat)(σ aj:Sg):Prop where
 le:σ.length<=aj.length
 eq:∀j,j<σ.length->j≠i->j≠a->ay aj j=ay σ j
 src:dO aj i
theorem cL.get (h:cL i a σ aj)(hj:ay σ j=some o)(hi:j≠i)(ha:j≠a):ay aj j=some o:=(h.eq j (bK hj) hi ha).trans hj
theorem cL.trans (h:cL i a x y)(k:cL i a y z):cL i a x z :=
 ⟨bC h.le k.le,λj hj hi ha=>(k.eq j (fK hj h.le) hi ha).trans (h.eq j hj hi ha),k.src⟩
theorem Ext.pB (h:Ext i σ aj):cL i a σ aj:=⟨h.le,λj hj hi Z=>h.eq j hj hi,h.src⟩
theorem dO.set (h:dO σ i)(ha:a≠i):dO (bG σ a o) i:=by
 refine fE h ?_;clear h;rintro x y h;exact(d7 x y (by rw[qf (i5 ha)];exact h))
theorem cL.put (h:dO σ i)(ha:a≠i):cL i a σ (bG σ a o):=⟨by rw[kz];exact bc _,λj Z Z hj=>qf hj,h.set ha⟩
theorem cL.ext (h0:Ext i MS σ)(h:cL i a σ aj)(ha:MS.length<=a):Ext i MS aj :=
 ⟨bC h0.le h.le,λj hj hi=>(h.eq j (fK hj h0.le) hi (by lia)).trans (h0.eq j hj hi),h.src⟩
theorem mX (h:ay σ a=some (.list l))(hl:l.length<=100000):cw .append [.ref a,v] σ=some (.ok .none,bG σ a (.list (l++[v]))):=by
 obtain e: cw .append [.ref a,v]=bd (gt (listAt a)) λl=>(match fits (l.length+1) with
  |true=>bd (put a (.list (l++[v]))) λZ=>rt .none
  |false=>no):=rfl
 obtain e1: listAt a σ=some l:=by unfold listAt;rw[h]
 obtain e3: put a (.list (l++[v])) σ=some (.ok (),bG σ a (.list (l++[v]))):=by
  unfold put;rw[h]
 rw[e];unfold bd gt;rw[e1];dsimp only;rw[iI (by exact tD hl (cJ (kC 100000) 16677215))];dsimp only;rw[e3];rfl
abbrev ed (l:List Int):List V:=l.map .int
noncomputable def l1 (x:ak)(loc:List (ak×V)):Prop:=loc=[]\/∃v,loc=[(x,v)]
theorem MF (ht:(aa t).length<=4096)(h0:c0≠i)(h1:c1≠i)(h2:aA≠i)(h3:c0≠aA)(h4:c1≠aA):∀(m k:Nat) (σ:Sg) (l:List Int) (loc:List (ak×V)),n=k+m->dO σ i->ay σ c0=some (.cell (some (.ref i)))->ay σ c1=some (.cell (some (.str t)))->ay σ aA=some (.list (ed l))->l.length+m<=60->(∀x∈l,0<=x/\x<=(aa t).length)->l1 (sl "turn") loc ->
 ∃(l':List Int) (aj:Sg),l'.length=l.length+m/\(∀x∈l',0<=x/\x<=(aa t).length)/\cL i aA σ aj/\ay aj aA=some (.list (ed l'))/\bp aR (bJ G) (EJ 0 (d+2) c0 c1 c2 loc (.cm k n) aA) σ (.ok (.v (.ref aA))) aj
 | 0,k,σ,l,loc,hn,hs,e0,e1,ea,hl,hr,hc=>by
  refine(qu l σ rfl hr ((Ext.uy hs).pB) ea ?_);have nx:=Km (k:=k) (n:=n) σ (hZ hn);refine aG hc ?_ (kE ?_)
  ·rintro rfl;exact aK 60 [.go,.n none] (λz=>ae nx z)
  ·clear hc;rintro v rfl;exact aK 60 [.go,.n none] (λz=>ae nx z)
 |m+1,k,σ,l,loc,hn,hs,e0,e1,ea,hl,hr,hc=>by
  obtain nx:=Jp (k:=k) (n:=n) σ (Hh (hZ (eG hn)));have q0:ig aR (wM 0 (d+2) c0 c1 c2 [(sl "turn",.int k)]) (sl "source") σ=some (.ok (.ref i),σ):=qG (by kernel_rfl) e0;have q1:ig aR (wM 0 (d+2) c0 c1 c2 [(sl "turn",.int k)]) (sl "text") σ=some (.ok (.str t),σ):=qG (by kernel_rfl) e1;obtain ln:=len_str σ (t:=t) (bC ht (cJ 4096 4096));refine dT (tM (G:=G) (d:=d) (top:=(aa t).length+1) hs (by exact HF (aa t).length)) ?_;rintro r bj AM uG hx tk;have Oc:=hx.get ea h2;have ap:=mX (v:=.int r) Oc (by rw[gK];lia);have x2:cL i aA σ (bG bj aA (.list (ed l++[.int r]))):=hx.pB.trans (cL.put hx.src h2);refine nV (MF (d:=d) (n:=n) (c2:=c2) ht h0 h1 h2 h3 h4 m (k+1) (bG bj aA (.list (ed l++[.int r]))) (l++[r]) [(sl "turn",.int k)] (by lia) x2.src (x2.get e0 h0 h3) (x2.get e1 h1 h4) (by rw[gM (bK Oc)];simp[ed]) (by rw[bk];simp;lia) (λx hx=>by
   refine aG (rJ.mp hx) ?_ ?_
   ·rintro h;exact hr x h
   ·rintro h;rw[iD.mp h];exact⟨AM,by exact(Int.add_le_add_iff_right 1).mp uG⟩) (.inr ⟨_,rfl⟩)) ?_
  rintro l' aj uA tw nF mG ev;refine(qu l' aj (by rw[uA,bk];skip;exact Bn l.length 1 m) tw (x2.trans nF) mG ?_);refine aG hc ?_ (kE ?_)
  ·rintro rfl;exact aK 60 [.go,.n (some (.int k,.cm (k+1) n)),.b true,.c (.ref i),.c (.str t),.o (.int (aa t).length),.a (.ok (.int r)) bj,.a (.ok .none) (bG bj aA (.list (ed l++[.int r]))),.j (.ok (.v (.ref aA))) aj] (λz=>ae nx (ae (aH true) (ae q0 (ae q1 (ae ln (ae tk (ae ap (ae ev z))))))))
  ·clear hc;rintro v rfl;exact aK 60 [.go,.n (some (.int k,.cm (k+1) n)),.b true,.c (.ref i),.c (.str t),.o (.int (aa t).length),.a (.ok (.int r)) bj,.a (.ok .none) (bG bj aA (.list (ed l++[.int r]))),.j (.ok (.v (.ref aA))) aj] (λz=>ae nx (ae (aH true) (ae q0 (ae q1 (ae ln (ae tk (ae ap (ae ev z))))))))
theorem ME (h2:aA≠i)(h3:p≠aA)(xD:p≠i)(hL:L.length<=60):∀(r l:List Int) (σ:Sg) (loc:List (ak×V)),L=l++r->dO σ i->ay σ p=some (.list (ed L))->ay σ aA=some (.list (ed l))->l1 (sl "place") loc ->
 ∃aj,cL i aA σ aj/\ay aj aA=some (.list (ed L))/\bp aR (bJ G) (EJ 1 d c0 c1 c2 loc (.list p l.length) aA) σ (.ok (.v (.ref aA))) aj
 |[],l,σ,loc,hn,hs,ep,ea,hc=>by
  rw[di]at hn;subst hn;refine(cO σ ((Ext.uy hs).pB) ea ?_);have nx:=y7 (k:=L.length) ep (vL (by rw[rz];simp[ed]));refine aG hc ?_ (kE ?_)
  ·rintro rfl;exact aK 60 [.go,.n none] (λz=>ae nx z)
  ·clear hc;rintro v rfl;exact aK 60 [.go,.n none] (λz=>ae nx z)
 |x::r,l,σ,loc,hn,hs,ep,ea,hc=>by
  obtain hl: l.length<=60:=by have af:=congrArg ew hn;rw[bk]at af;lia
  obtain hv: ay (ed L) l.length=some (.int x):=by
   rw[hn];unfold ed;rw[vz];have af:=eE (l:=l.map V.int) (r:=(x::r).map V.int) (i:=0);rw[gK,jT]at af;exact af
  have nx:=v5 (k:=l.length) ep hv;have ap:=mX (v:=.int x) ea (by rw[gK];exact bC hl (cJ 60 99940));obtain x2:=cL.put hs h2;refine cy (ME (d:=d) (c0:=c0) (c1:=c1) (c2:=c2) h2 h3 xD hL r (l++[x]) (bG σ aA (.list (ed l++[.int x]))) [(sl "place",.int x)] (by rw[hn];simp) x2.src (x2.get ep xD h3) (by rw[gM (bK ea)];simp[ed]) (.inr ⟨_,rfl⟩)) ?_;rintro aj nF mG ev;rw[bk,oJ]at ev;refine(cO aj (x2.trans nF) mG ?_);refine aG hc ?_ (kE ?_)
  ·rintro rfl;exact aK 60 [.go,.n (some (.int x,.list p (l.length+1))),.b true,.a (.ok .none) (bG σ aA (.list (ed l++[.int x]))),.j (.ok (.v (.ref aA))) aj] (λz=>ae nx (ae (aH true) (ae ap (ae ev z))))
  ·clear hc;rintro v rfl;exact aK 60 [.go,.n (some (.int x,.list p (l.length+1))),.b true,.a (.ok .none) (bG σ aA (.list (ed l++[.int x]))),.j (.ok (.v (.ref aA))) aj] (λz=>ae nx (ae (aH true) (ae ap (ae ev z))))
noncomputable def qW (t:List Nat):List Int->List ak
 |a::b::r=>aw ((t.take b.toNat).drop a.toNat)::qW t (b::r)
 |_=>[]
theorem JW (t:List Nat):∀(a:Int) (r:List Int),(qW t (a::r)).length=r.length
 |a,[]=>rfl
 |a,b::r=>congrArg (·+1) (JW t b r)
theorem Sp {a b:Int}(σ:Sg)(ht:(aa t).length<=4096)(ha:0<=a)(hb:0<=b)(th:b<=(aa t).length)(uK:a<=(aa t).length):js (.str t) (some (.int a)) (some (.int b)) σ=some (.ok (.str (aw (((aa t).take b.toNat).drop a.toNat))),σ):=by
 refine oE (u6 ha) ?_;rintro a rfl;refine oE (u6 hb) ?_;rintro b rfl;obtain e: js (.str t) (some (.int a)) (some (.int b))=(match fits (aa t).length with
  |false=>no
  |true=>rt (V.str (iz t (min a (aa t).length) (min b (aa t).length)))):=rfl
 rw[e,iI (bC ht (cJ 4096 16773120))];obtain h1:=nP (tN.mp uK);obtain h2:=nP (tN.mp th);rw[h1,h2];rfl
theorem MB {L:List Int}(ht:(aa t).length<=4096)(h1:c1≠i)(h5:c2≠i)(h2:aA≠i)(h3:p≠aA)(h4:c1≠aA)(h6:c2≠aA)(xD:p≠i)(hL:L.length<=60)(hr:∀x∈L,0<=x/\x<=(aa t).length):∀(r:List Int) (a:Int) (aC:List Int) (acl:List ak) (σ:Sg) (loc:List (ak×V)),L=aC++a::r->dO σ i->ay σ c1=some (.cell (some (.str t)))->ay σ c2=some (.cell (some (.ref p)))->ay σ p=some (.list (ed L))->ay σ aA=some (.list (bN acl))->acl.length=aC.length->l1 (sl "k") loc ->
 ∃aj,cL i aA σ aj/\ay aj aA=some (.list (bN (acl++qW (aa t) (a::r))))/\bp aR (bJ G) (EJ 2 d c0 c1 c2 loc (.cm aC.length ((L.length:Int)-1)) aA) σ (.ok (.v (.ref aA))) aj
 |[],a,aC,acl,σ,loc,hn,hs,e1,e2,ep,ea,Nk,hc=>by
  obtain fY:L.length=aC.length+1:=by rw[hn];simp
  refine(cO σ ((Ext.uy hs).pB) (by rw[show qW (aa t) [a]=[] from rfl,di];exact ea) ?_);have nx:fB (.cm aC.length ((L.length:Int)-1)) σ=some none:=by
   show(if ((aC.length:Nat):Int)<((L.length:Int)-1) then _ else some none)=_;rw[if_neg (by lia)]
  refine aG hc ?_ (kE ?_)
  ·rintro rfl;exact aK 60 [.go,.n none] (λz=>ae nx z)
  ·clear hc;rintro v rfl;exact aK 60 [.go,.n none] (λz=>ae nx z)
 |b::r,a,aC,acl,σ,loc,hn,hs,e1,e2,ep,ea,Nk,hc=>by
  have fY:L.length=aC.length+(r.length+2):=by rw[hn];simp
  have nx:fB (.cm aC.length ((L.length:Int)-1)) σ=some (some (.int aC.length,.cm (aC.length+1) ((L.length:Int)-1))):=by
   show(if ((aC.length:Nat):Int)<((L.length:Int)-1) then _ else some none)=_;rw[if_pos (by lia)]
  obtain va: ay (ed L) aC.length=some (.int a):=by
   rw[hn];unfold ed;rw[vz];have af:=eE (l:=aC.map V.int) (r:=(a::b::r).map V.int) (i:=0);rw[gK,jT]at af;exact af
  obtain vb: ay (ed L) (aC.length+1)=some (.int b):=by
   rw[hn];unfold ed;rw[vz];have af:=eE (l:=aC.map V.int) (r:=(a::b::r).map V.int) (i:=1);rw[gK]at af;exact af
  have ia:=item_list ep va (by rw[gK];exact bC hL (cJ 60 16777156));have ib:iu (.ref p) (.int ((aC.length:Nat)+1)) σ=some (.ok (.int b),σ):=item_list ep vb (by rw[gK];exact bC hL (cJ 60 16777156));obtain q1:ig aR (wM 2 d c0 c1 c2 [(sl "k",.int aC.length)]) (sl "text") σ=some (.ok (.str t),σ):=qG (by kernel_rfl) e1;obtain q2:ig aR (wM 2 d c0 c1 c2 [(sl "k",.int aC.length)]) (sl "places") σ=some (.ok (.ref p),σ):=qG (by kernel_rfl) e2;obtain ha:=hr a (by rw[hn];simp);obtain hb:=hr b (by rw[hn];simp);have sp:=Sp (t:=t) σ ht ha.1 hb.1 hb.2 ha.2;have ap:=mX (v:=.str (aw (((aa t).take b.toNat).drop a.toNat))) ea (by rw[gK];lia);obtain x2:=cL.put hs h2;refine cy (MB (d:=d) (c0:=c0) (L:=L) ht h1 h5 h2 h3 h4 h6 xD hL hr r b (aC++[a]) (acl++[aw (((aa t).take b.toNat).drop a.toNat)]) (bG σ aA (.list (bN acl++[.str (aw (((aa t).take b.toNat).drop a.toNat))]))) [(sl "k",.int aC.length)] (by rw[hn];simp) x2.src (x2.get e1 h1 h4) (x2.get e2 h5 h6) (x2.get ep xD h3) (by rw[gM (bK ea)];simp[bN]) (by simp[Nk]) (.inr ⟨_,rfl⟩)) ?_;rintro aj nF mG ev;rw[bk,oJ]at ev;refine(cO aj (x2.trans nF) (by rw[mG,bM];rfl) ?_);refine aG hc ?_ (kE ?_)
  ·rintro rfl;exact aK 60 [.go,.n (some (.int aC.length,.cm (aC.length+1) ((L.length:Int)-1))),.b true,.c (.str t),.c (.ref p),.o (.int a),.c (.ref p),.o (.int b),.o (.str (aw (((aa t).take b.toNat).drop a.toNat))),.a (.ok .none) (bG σ aA (.list (bN acl++[.str (aw (((aa t).take b.toNat).drop a.toNat))]))),.j (.ok (.v (.ref aA))) aj] (λz=>ae nx (ae (aH true) (ae q1 (ae q2 (ae ia (ae q2 (ae ib (ae sp (ae ap (ae ev z))))))))))
  ·clear hc;rintro v rfl;exact aK 60 [.go,.n (some (.int aC.length,.cm (aC.length+1) ((L.length:Int)-1))),.b true,.c (.str t),.c (.ref p),.o (.int a),.c (.ref p),.o (.int b),.o (.str (aw (((aa t).take b.toNat).drop a.toNat))),.a (.ok .none) (bG σ aA (.list (bN acl++[.str (aw (((aa t).take b.toNat).drop a.toNat))]))),.j (.ok (.v (.ref aA))) aj] (λz=>ae nx (ae (aH true) (ae q1 (ae q2 (ae ia (ae q2 (ae ib (ae sp (ae ap (ae ev z))))))))))
variable {G:Nat->Option (Nat->List V->Mo V)}
theorem CC:∀{l},x∈insI a l↔x=a\/x∈l
 |[]=>by simp[insI]
 |b::r=>by
  dsimp only[insI];split
  ·simp
  ·rw[cU,CC (l:=r),cU];constructor
   ·rintro(h|h|h)
    ·exact .inr (.inl h)
    ·exact .inl h
    ·exact .inr (.inr h)
   ·rintro(h|h|h)
    ·exact .inr (.inl h)
    ·exact .inl h
    ·exact .inr (.inr h)
theorem vO:∀{l},x∈sortI l↔x∈l
 |[]=>by simp[sortI]
 |a::r=>by
  show x∈insI a (sortI r)↔_;rw[CC,vO (l:=r),cU]
theorem IL (a:Int):∀(l:List Int),(insI a l).length=l.length+1
 |[]=>rfl
 |b::r=>by
  dsimp only[insI];split
  ·rfl
  ·rw[dJ,IL a r];rfl
theorem H5:∀(l:List Int),(sortI l).length=l.length
 |[]=>rfl
 |a::r=>by
  show(insI a (sortI r)).length=_;rw[IL,H5 r];rfl
set_option tactic.hygienic true in
theorem Jt:∀{l},l.Pairwise (·<=·)->(insI a l).Pairwise (·<=·)
 |[],_=>by simp[insI]
 |b::r,h=>by
  refine oA (rB.mp h) ?_;rintro h1 h2;dsimp only[insI];split
  ·rename_i Ae;refine rB.mpr ⟨λx hx=>?_,h⟩;refine aG (cU.mp hx) ?_ ?_
   ·rintro rfl;exact Ae
   ·rintro hx;exact Int.le_trans Ae (h1 x hx)
  ·rename_i Ae;refine rB.mpr ⟨λx hx=>?_,Jt h2⟩;refine aG (CC.mp hx) ?_ ?_
   ·rintro rfl;lia
   ·rintro hx;exact h1 x hx
theorem H3:∀(l:List Int),(sortI l).Pairwise (·<=·)
 |[]=>Pj
 |a::r=>Jt (H3 r)
theorem IQ:∀(l:List Int),rX (ed l)=some l
 |[]=>rfl
 |a::r=>by
  show(rX (ed r)).map (a::·)=_;rw[IQ r];rfl
theorem QX (h:ay σ a=some (.list (ed l)))(hl:l.length<64):cw .sorted [.ref a] σ=some (.ok (.ref σ.length),σ++[.list (ed (sortI l))]):=by
 obtain e: cw .sorted [.ref a]=bd (gt (listAt a)) λl=>bd (aX (rX l)) λns=>match cE ns.length 64 with
  |true=>bd (al (.list ((sortI ns).map V.int))) λk=>rt (.ref k)
  |false=>no:=rfl
 obtain e1: listAt a σ=some (ed l):=by unfold listAt;rw[h]
 rw[e];unfold bd gt;rw[e1];dsimp only;rw[IQ];rw[show aX (some l) σ=some (Rs.ok l,σ) from rfl];dsimp only;rw[show cE l.length 64=true from lg hl];rfl
theorem Kg (t:List Nat):∀(r:List Int) (a:Int),(a::r).Pairwise (·<=·)->(∀x∈a::r,0<=x/\x<=(t.length:Int))->∃z,(z∈a::r)/\(∀x∈a::r,x<=z)/\cat (qW t (a::r))=(t.take z.toNat).drop a.toNat
 |[],a,_,h=>by
  refine(cO a fJ (λx hx=>?_) ?_)
  ·refine aG (cU.mp hx) ?_ ?_
   ·clear hx;rintro rfl;exact Int.le_refl _
   ·rintro h;cases h
  ·show[]=_;rw[IB,Nat.sub_self];rfl
 |b::r,a,hp,h=>by
  refine oA (rB.mp hp) ?_;rintro h1 h2;refine cy (Kg t r b h2 (λx hx=>h x (jj _ hx))) ?_;rintro z hz hm e;obtain Ae:=h1 b fJ;obtain hbz:=hm b fJ;obtain ha0:=h a fJ;obtain hb0:= h b (jj _ fJ);refine(cO z (jj _ hz) (λx hx=>?_) ?_)
  ·refine aG (cU.mp hx) ?_ ?_
   ·rintro rfl;lia
   ·rintro hx;exact hm x hx
  ·show(t.take b.toNat).drop a.toNat++cat (qW t (b::r))=_;rw[e];obtain e2: t.take z.toNat=t.take b.toNat++(t.take z.toNat).drop b.toNat:=by
    obtain af:= tC b.toNat (t.take z.toNat);rw[BN,nP (by lia)]at af;exact af.symm
   conv=>rhs;rw[e2]
   rw[List.drop_append_of_le_length];rw[pY];lia
theorem Ql (t:List Nat)(l:List Int)(h:∀x∈l,0<=x/\x<=(t.length:Int)):∃a r,sortI (([0,(t.length:Int)]:List Int)++l)=a::r/\cat (qW t (a::r))=t/\r.length=l.length+1:=by
 have hr:∀x∈sortI (([0,(t.length:Int)]:List Int)++l),0<=x/\x<=(t.length:Int):=λx hx=>by
  refine aG (rJ.mp (vO.mp hx)) ?_ ?_
  ·rintro hx;simp at hx;focus(refine aG hx ?_ ?_;clear hx;rintro rfl;rotate_left;clear hx;rintro rfl;rotate_left)<;>lia
  ·rintro hx;exact h x hx
 obtain hl:= H5 (([0,(t.length:Int)]:List Int)++l);obtain hp:=H3 (([0,(t.length:Int)]:List Int)++l);have m0:(0:Int)∈sortI (([0,(t.length:Int)]:List Int)++l):=vO.mpr (by simp);obtain mn: (t.length:Int)∈sortI (([0,(t.length:Int)]:List Int)++l):=vO.mpr (by simp);induction hs:sortI (([0,(t.length:Int)]:List Int)++l) using aQ with
 |nil=>rw[hs]at m0;cases m0
 |cons a r =>
  rw[hs]at hr hl hp m0 mn;refine cy (Kg t r a hp hr) ?_;rintro z hz hm e;have ha: a=0:=by
   obtain h1:= hr a fJ;refine aG (cU.mp m0) ?_ ?_
   ·rintro h0;exact h0.symm
   ·rintro h0;obtain af:= (rB.mp hp).1 0 h0;lia
  obtain Z6: z=t.length:=by
   obtain h1:= hm _ mn;obtain h2:= (hr z hz).2;lia
  refine(ey a r rfl ?_ ?_)
  ·rw[e,ha,Z6];rw[vk,rK]
  ·simp at hl;lia
theorem K6 (e:gw U x v=bd (aX (some c)) λi=>bd (gt λσ=>match ay σ i with
 |some (.cell _)=>some ()
 |_=>none) λZ=>bd (put i (.cell (some v))) λZ=>rt U) (h:ay σ c=some (.cell w)):gw U x v σ=some (.ok U,bG σ c (.cell (some v))):=by
 obtain e3: put c (.cell (some v)) σ=some (.ok (),bG σ c (.cell (some v))):=by
  unfold put;rw[h]
 rw[e];show(bd (gt λσ=>match ay σ c with
  |some (.cell _)=>some ()
  |_=>none) λZ=>bd (put c (.cell (some v))) λZ=>rt U) σ=_
 unfold bd gt;dsimp only;rw[h];dsimp only;rw[e3];rfl
theorem len_list (h:ay σ a=some (.list l))(hl:l.length<=100000):cw .len [.ref a] σ=some (.ok (.int l.length),σ):=by
 obtain e1: listAt a σ=some l:=by unfold listAt;rw[h]
 obtain e:cw .len [.ref a]=bd (gt (listAt a)) λl=>(match fits l.length with|true=>rt (V.int (.ofNat l.length))|false=>no):=rfl;rw[e];unfold bd gt;rw[e1];dsimp only;rw[iI (by lia)];rfl
variable {G:Nat->Option (Nat->List V->Mo V)}
theorem yq (hs:dO σ i)(ht:(aa t).length<=4000):∃ps r aj,cat ps=aa t/\ps.length<=10/\Ext i σ aj/\r≠i/\σ.length<=r/\ay aj r=some (.list (bN ps))/\bp aR (bJ G) (.ca (d+4) (.fn 1079) [.ref i,.str t]) σ (.ok (.v (.ref r))) aj:=by
 have il:=hs.lt;generalize ti:σ.length=c0 at *;generalize Az:(σ++[O.cell (some (.ref i))]).length=c1;generalize pQ:(σ++[O.cell (some (.ref i))]++[O.cell (some (.str t))]).length=c2;have k1:c1=c0+1:=by rw[<- Az,<- ti];simp
 have k2:c2=c0+2:=by rw[<- pQ,<- ti];simp
 generalize qO:σ++[O.cell (some (.ref i))]++[.cell (some (.str t))]++[.cell none]=bj;have EI:bj.length=c0+3:=by rw[<- qO,<- ti];simp
 have F4:Ext i σ bj:=by rw[<- qO,bM,bM];exact Ext.app hs _
 have g0:ay bj c0=some (.cell (some (.ref i))):=by
  rw[<- qO,bM,bM,<- ti];exact eE (i:=0)
 have g1:ay bj c1=some (.cell (some (.str t))):=by
  rw[<- qO,bM,bM,k1,<- ti];exact eE (i:=1)
 obtain g2: ay bj c2=some (.cell none):=by
  rw[<- qO,bM,bM,k2,<- ti];exact eE (i:=2)
 obtain q1: ig aR (qU (d+3) c0 c1 c2) (sl "text") bj=some (.ok (.str t),bj):=qG (by kernel_rfl) g1;obtain ln:=len_str bj (t:=t) (by lia);generalize zS:bj++[O.list [.int 0,.int (aa t).length]]=aY;have sU:Ext i bj aY:=by rw[<- zS];exact Ext.app F4.src _
 have W3:aY.length=c0+4:=by rw[<- zS];simp;lia
 obtain n0:c0≠i:=by lia
 obtain n1:c1≠i:=by lia
 obtain n2:c2≠i:=by lia
 obtain gp: ay aY (c0+3)=some (.list [.int 0,.int (aa t).length]):=by rw[<- zS,<- EI];exact cV _ _
 obtain q2: ig aR (qU (d+3) c0 c1 c2) (sl "source") aY=some (.ok (.ref i),aY):=qG (by kernel_rfl) (sU.get g0 n0);refine dT (tM (G:=G) (d:=d+1) (top:=5) sU.src (by lia)) ?_;rintro x eX GC E4 qH tk;refine oE (u6 GC) ?_;rintro n rfl;obtain rn:(0:Int)<=(n:Int)/\(n:Int)<=16777216:=by lia
 obtain Xr:=qH.le;obtain zO:Ext i eX (eX++[.list []]):=Ext.app qH.src _;obtain Es:=sU.trans (qH.trans zO);refine nV (MF (G:=G) (d:=d+1) (i:=i) (n:=n) (aA:=eX.length) (c0:=c0) (c1:=c1) (c2:=c2) (t:=t) (by lia) n0 n1 (by lia) (by lia) (by lia) n 0 (eX++[.list []]) [] [] (by lia) zO.src (Es.get g0 n0) (Es.get g1 n1) (cV _ _) (by simp;lia) (λx hx=>by cases hx) (.inl rfl)) ?_;rintro l dz hl hr Fq ga Yl;rw[rH,rM]at hl;have NK:=((F4.trans sU).trans qH).trans (cL.ext zO Fq (bc _));have e4:∀{j o},ay eX j=some o->j≠i->ay dz j=some o:=λh hi=>Fq.get (zO.get h hi) hi (by have af:=bK h;lia);obtain N7:=e4 (qH.get gp (by lia)) (by lia);obtain ad:= add_list N7 ga (by rw[gK];simp;lia);have Xn:=Fq.le;rw[bk,oJ]at Xn;generalize sL:dz++[O.list ([.int 0,.int (aa t).length]++ed l)]=jA at ad;have AU:Ext i dz jA:=by rw[<- sL];exact Ext.app NK.src _
 obtain gL:ay jA dz.length=some (.list (ed (([0,((aa t).length:Int)]:List Int)++l))):=by rw[<- sL];exact cV _ _
 have F0:=AU.get (e4 (qH.get (sU.get g2 n2) n2) n2) n2;obtain bh: gw (qU (d+3) c0 c1 c2) (sl "places") (.ref dz.length) jA=some (.ok (qU (d+3) c0 c1 c2),bG jA c2 (.cell (some (.ref dz.length)))):=K6 (by kernel_rfl) F0;generalize zC:bG jA c2 (.cell (some (.ref dz.length)))=ez at bh;have AR:cL i c2 jA ez:=by rw[<- zC];exact cL.put AU.src n2
 obtain MI: jA.length=dz.length+1:=by rw[<- sL];simp
 have aak:ez.length=dz.length+1:=by rw[<- zC,kz,MI]
 have Fj:ay ez c2=some (.cell (some (.ref dz.length))):=by rw[<- zC];exact gM (bK F0)
 obtain Ot:=AR.get gL (by lia) (by lia);obtain Nd:=cL.ext (NK.trans AU) AR (by lia);obtain q3: ig aR (qU (d+3) c0 c1 c2) (sl "places") ez=some (.ok (.ref dz.length),ez):=qG (by kernel_rfl) Fj;obtain li: listAt dz.length ez=some (ed (([0,((aa t).length:Int)]:List Int)++l)):=by unfold listAt;rw[Ot]
 have Ag:Ext i ez (ez++[.list []]):=Ext.app Nd.src _;refine cy (ME (G:=G) (d:=d+3) (i:=i) (p:=dz.length) (aA:=ez.length) (c0:=c0) (c1:=c1) (c2:=c2) (L:=([0,((aa t).length:Int)]:List Int)++l) (by lia) (by lia) (by lia) (by simp;lia) (([0,((aa t).length:Int)]:List Int)++l) [] (ez++[.list []]) [] rfl Ag.src (Ag.get Ot (by lia)) (cV _ _) (.inl rfl)) ?_;rintro de Ff ga7 YK;obtain NO:∀{j o},ay ez j=some o->j≠i->ay de j=some o:=λh hi=>Ff.get (Ag.get h hi) hi (by have af:=bK h;lia);have MO:=Nd.trans (cL.ext Ag Ff (bc _));obtain so:= QX ga7 (by simp;lia);refine cj (Ql (aa t) l hr) ?_;rintro a r hS Xl hrl;rw[hS]at so;obtain XZ:=Ff.le;rw[bk,oJ]at XZ;generalize ER:de++[O.list (ed (a::r))]=mI at so;have Ak:Ext i de mI:=by rw[<- ER];exact Ext.app MO.src _
 obtain gS:ay mI de.length=some (.list (ed (a::r))):=by rw[<- ER];exact cV _ _
 have FF:=Ak.get (NO Fj n2) n2;obtain bF: gw (qU (d+3) c0 c1 c2) (sl "places") (.ref de.length) mI=some (.ok (qU (d+3) c0 c1 c2),bG mI c2 (.cell (some (.ref de.length)))):=K6 (by kernel_rfl) FF;generalize zD:bG mI c2 (.cell (some (.ref de.length)))=lR at bF;have Am:cL i c2 mI lR:=by rw[<- zD];exact cL.put Ak.src n2
 obtain Xv: mI.length=de.length+1:=by rw[<- ER];simp
 have aam:lR.length=de.length+1:=by rw[<- zD,kz,Xv]
 have F8:ay lR c2=some (.cell (some (.ref de.length))):=by rw[<- zD];exact gM (bK FF)
 obtain NC:=Am.get gS (by lia) (by lia);obtain NB:=cL.ext (MO.trans Ak) Am (by lia);obtain q4: ig aR (qU (d+3) c0 c1 c2) (sl "places") lR=some (.ok (.ref de.length),lR):=qG (by kernel_rfl) F8;obtain ll:= len_list NC (by simp;lia);rw[gK]at ll;obtain M5:=Am.get (Ak.get (NO (AR.get (AU.get (e4 (qH.get (sU.get g1 n1) n1) n1) n1) n1 (by lia)) n1) n1) n1 (by lia);obtain w7:=Ext.app NB.src _;obtain Yz: ∀x∈a::r,0<=x/\x<=((aa t).length:Int):=λx hx=>by
  rw[<- hS]at hx;refine aG (rJ.mp (vO.mp hx)) ?_ ?_
  ·rintro hx;refine aG (cU.mp hx) ?_ ?_
   ·rintro rfl;lia
   ·rintro hx;rw[iD.mp hx];lia
  ·rintro hx;exact hr x hx
 refine cy (MB (G:=G) (d:=d+3) (i:=i) (p:=de.length) (aA:=lR.length) (c0:=c0) (c1:=c1) (c2:=c2) (t:=t) (L:=a::r) (by lia) n1 n2 (by lia) (by lia) (by lia) (by lia) (by lia) (by simp;lia) Yz r a [] [] (lR++[.list []]) [] rfl w7.src (w7.get M5 n1) (w7.get F8 n2) (w7.get NC (by lia)) (cV _ _) rfl (.inl rfl)) ?_;rintro pn Xy Xa Zb;obtain rb: (0:Int)<=((a::r).length:Int)-1/\((a::r).length:Int)-1<=16777216:=by simp;lia
 refine⟨qW (aa t) (a::r),lR.length,pn,Xl,by rw[JW];lia,NB.trans (cL.ext w7 Xy (bc _)),by lia,by lia,Xa,?_⟩;rw[<- EI]at ad;clear AR Am F4 sU Es qH g0 g1 M5 g2 F0 Fj FF F8 gp N7 zC zD il k1 k2 EI W3 Xr n0 n1 n2;subst zS qO pQ Az ti;exact aK 100 [.go,.c (.str t),.o (.int (aa t).length),.c (.ref i),.a (.ok (.int n)) eX,.j (.ok (.v (.ref eX.length))) dz,.a (.ok (.ref dz.length)) jA,.s ez,.c (.ref dz.length),.l (ed (([0,((aa t).length:Int)]:List Int)++l)),.j (.ok (.v (.ref ez.length))) de,.a (.ok (.ref de.length)) mI,.s lR,.c (.ref de.length),.o (.int (a::r).length),.j (.ok (.v (.ref lR.length))) pn] (λz=>ae q1 (ae ln (ae q2 (ae tk (ae rn (ae Yl (ae ad (ae bh (ae q3 (ae li (ae YK (ae so (ae bF (ae q4 (ae ll (ae rb (ae Zb z)))))))))))))))))
variable {G:Nat->Option (Nat->List V->Mo V)}
noncomputable def i9 (aA:List V)(v:V):List V:=match iC v,aA.getLast?.bind iC with
 |some w,some w2=>aA.dropLast++[dy (bB w2 w)]
 |_,_=>aA++[v]
noncomputable def jn:List V->List V->List V
 |aA,[]=>aA
 |aA,v::r=>jn (i9 aA v) r
theorem yv (h:dH v=true):∃k r,v=.tup (.str k::r)/\r.length<=10/\((bg k (sl "text")=false/\iC v=none)\/∃w,bg k (sl "text")=true/\r=[.str w]/\iC v=some w):=by
 refine dT (CT h) ?_;rintro k r h1 _ h2 h3;refine(ey k r (CJ h1) (dA h2) ?_);obtain e:iC v=(match bg k (sl "text") with
  |true=>uT r
  |false=>none):=by unfold iC;rw[h1];rfl
 refine aG h3 ?_ (kA ?_)
 ·rintro h3;exact .inl ⟨h3,by rw[e,h3]⟩
 ·rintro h3 ⟨w,c,l,h4,_⟩;exact .inr ⟨w,h3,J2 h4,by rw[e,h3];exact h4⟩
theorem jo (σ:Sg)(hv:ay l k=some v)(hl:l.length<=16777216):iu (.tup l) (.int (k:Nat)) σ=some (.ok v,σ):=by
 show aX ((place (.ofNat k) l.length).bind (ay l)) σ=_;obtain af: place (.ofNat k) l.length=some k:=by
  unfold place;rw[iI hl];dsimp only;rw[show cE k l.length=true from lg (bK hv)]
 rw[af];show aX (ay l k) σ=_;rw[hv];rfl
theorem HV (h:n+1<=16777216):place (.negSucc 0) (n+1)=some n:=by
 unfold place;rw[iI h];rfl
theorem item_last (h:ay σ f=some (.list (a++[u])))(hl:a.length<=100000):iu (.ref f) (.int (-1)) σ=some (.ok u,σ):=by
 show bd (gt (listAt f)) (λl=>aX ((place (.negSucc 0) l.length).bind (ay l))) σ=_;obtain e1: listAt f σ=some (a++[u]):=by unfold listAt;rw[h]
 unfold bd gt;rw[e1];dsimp only;rw[bk,oJ,HV (by lia)];show aX (ay (a++[u]) a.length) σ=_;have af:=eE (l:=a) (r:=[u]) (i:=0);rw[jT]at af;rw[af];rfl
theorem Io:∀(a:List α) (u v:α),bG (a++[u]) a.length v=a++[v]
 |[],u,v=>rfl
 |x::a,u,v=>congrArg (x::·) (Io a u v)
theorem RT (h:ay σ f=some (.list (a++[u])))(hl:a.length<=100000):bd (mZ (.ref f) (.int (-1)) v) (λZ=>rt V.none) σ=some (.ok .none,bG σ f (.list (a++[v]))):=by
 obtain e1: listAt f σ=some (a++[u]):=by unfold listAt;rw[h]
 obtain e:mZ (.ref f) (.int (-1)) v=bd (gt (listAt f)) λl=>bd (aX (place (.negSucc 0) l.length)) λj=>put f (.list (bG l j v)):=rfl;obtain e3: put f (.list (a++[v])) σ=some (.ok (),bG σ f (.list (a++[v]))):=by
  unfold put;rw[h]
 rw[e];unfold bd gt;rw[e1];dsimp only;rw[bk,oJ,HV (by lia)];rw[show aX (some a.length) σ=some (Rs.ok a.length,σ) from rfl];dsimp only;rw[Io,e3];rfl
theorem Ij:∀(a:List V) (u:V),sQ (a++[u])=some (a,u)
 |[],u=>rfl
 |[x],u=>rfl
 |x::y::a,u=>by
  show(match sQ (y::a++[u]) with
   |some p=>some (x::p.1,p.2)
   |none=>none)=_
  rw[Ij (y::a) u]
theorem Ua (h:ay σ f=some (.list (a++[u])))(hl:a.length<=100000):cw .pop [.ref f] σ=some (.ok u,bG σ f (.list a)):=by
 obtain e: cw .pop [.ref f]=bd (gt (listAt f)) λl=>(match fits l.length with
  |true=>bd (aX (sQ l)) λp=>bd (put f (.list p.1)) λZ=>rt p.2
  |false=>no):=rfl
 obtain e1: listAt f σ=some (a++[u]):=by unfold listAt;rw[h]
 obtain e3: put f (.list a) σ=some (.ok (),bG σ f (.list a)):=by
  unfold put;rw[h]
 rw[e];unfold bd gt;rw[e1];dsimp only;rw[iI (by rw[bk,oJ];lia)];dsimp only;rw[Ij];rw[show aX (some (a,u)) σ=some (Rs.ok (a,u),σ) from rfl];dsimp only;rw[e3];rfl
theorem qs (h:ay σ f=some (.list l))(hx:wG x=some b):mq aR (.ref f) x σ=some (.ok (.bi b,[.ref f]),σ):=by
 show(match ay σ f with
  |some (.list _)=>bd (aX (wG x)) (λb=>rt (V.bi b,[V.ref f])) σ
  |some (.inst C d)=>_
  |_=>none)=_
 rw[h];skip;rw[hx];rfl
theorem uh (h:dH v=true)(e:iC v=some w):v=dy w/\iV v=(aa w).map wj/\∃c r,aa w=c::r:=by
 refine cj (yv h) ?_;rintro k r rfl hl h1;refine aG h1 (kA ?_) (Er ?_)
 ·rintro _ h2;rw[h2]at e;exact nS e
 ·clear h1;rintro w' h2 rfl h3;rw[h3]at e;(clear hl h3;revert h;refine dP e ?_;intro h);obtain hk:= eh.mp h2;subst hk;refine(dg rfl rfl ?_);refine dT (CT h) ?_;rintro k r h1 _ _ h4;obtain h1:= CJ h1;injection h1 with h1
  injection h1 with h1 h5
  injection h1 with h1
  subst h1 h5;refine aG h4 ?_ (kA ?_)
  ·rintro h4;exact tF h4
  ·rintro _ ⟨w,c,l,h4,h6⟩;obtain z:= J2 h4;injection z with z
   injection z with z
   (refine il z ?_);exact(d7 c l h6)
theorem Lz (h:dH v=true)(e:iC v=none):iV v=[Sum.inl v]:=by
 unfold iV;rw[e]
noncomputable def lb (aA:List V):Fv->List V
 |.inl v=>aA++[v]
 |.inr c=>match aA.getLast?.bind iC with
  |some w=>aA.dropLast++[dy (bB w (ch c))]
  |none=>aA++[dy (ch c)]
theorem CZ:∀(cs:List Nat) (a:List V) (w:ak),(cs.map wj).foldl lb (a++[dy w])=a++[dy (bB w (aw cs))]
 |[],a,w=>by
  show a++[dy w]=a++[dy (aw (aa w++[]))];rw[di]
 |c::cs,a,w=>by
  show(cs.map wj).foldl lb (lb (a++[dy w]) (.inr c))=_;obtain af: lb (a++[dy w]) (.inr c)=a++[dy (bB w (ch c))]:=by
   unfold lb;rw[Bb];rw[show(some (dy w)).bind iC=some w from rfl,xP]
  rw[af,CZ cs];show a++[dy (aw (aa w++[c]++cs))]=a++[dy (aw (aa w++c::cs))];rw[bM];rfl
theorem Se (h:dH v=true):i9 aA v=(iV v).foldl lb aA:=by
 unfold i9;induction e:iC v with
 |none=>rw[Lz h e];rfl
 |some w =>
  refine D1 (uh h e) ?_;clear e h;rintro rfl e2 c r hw;rw[e2,hw];show _=(r.map wj).foldl lb (lb aA (.inr c));induction e3:aA.getLast?.bind iC with
  |none =>
   have af: lb aA (.inr c)=aA++[dy (ch c)]:=by unfold lb;rw[e3]
   rw[af,CZ];show aA++[dy w]=aA++[dy (aw ([c]++r))];rw[show[c]++r=aa w from hw.symm]
  |some w2 =>
   obtain af: lb aA (.inr c)=aA.dropLast++[dy (bB w2 (ch c))]:=by unfold lb;rw[e3]
   rw[af,CZ];show aA.dropLast++[dy (aw (aa w2++aa w))]=aA.dropLast++[dy (aw (aa w2++[c]++r))];rw[hw,bM];rfl
theorem Ee:∀(es aA:List V),es.all dH=true->jn aA es=(fl es).foldl lb aA
 |[],aA,_=>rfl
 |v::r,aA,h=>by
  rw[lY,cc]at h;show jn (i9 aA v) r=(iV v++fl r).foldl lb aA;rw[List.foldl_append,<- Se h.1,Ee r _ h.2]
noncomputable def vq (v:V):Prop:=jf 8 v v=some true
theorem Wt (w:ak):vq (dy w):=by
 show lI (jf 7) [.str (sl "text"),.str w] [.str (sl "text"),.str w]=some true;show(match some (bg (sl "text") (sl "text")),(match some (bg w w),some true with
  |some x,some y=>some (x&&y)
  |_,_=>none) with
  |some x,some y=>some (x&&y)
  |_,_=>none)=some true
 rw[BI,BI];rfl
theorem Lw:∀(es aA:List V),(∀v∈es,vq v)->(∀v∈aA,vq v)->∀v∈jn aA es,vq v
 |[],aA,_,h=>h
 |x::r,aA,h1,h2=>by
  refine Lw r (i9 aA x) (λv hv=>h1 v (jj _ hv)) λv hv=>?_;have A:v∈aA++[x]->vq v:=λhv=>(rJ.mp hv).elim (h2 v) λhv=>iD.mp hv▸h1 x fJ;revert hv;unfold i9;induction iC x with
  |none=>exact A
  |some w =>
   induction aA.getLast?.bind iC with
   |none=>exact A
   |some w2=>exact λhv=>(rJ.mp hv).elim (λhv=>h2 v (List.dropLast_subset _ hv)) λhv=>iD.mp hv▸Wt _
theorem Rr (h:∀v∈l,vq v):pK l l=some true:=by
 obtain e1: ∀(l:List V),fb l l=true:=by
  intro l;induction l with
  |nil=>rfl
  |cons a l ih=>exact ih
 obtain e2: ∀(l:List V),(∀v∈l,vq v)->lI (jf 8) l l=some true:=by
  intro l;induction l with
  |nil=>intro _;rfl
  |cons a l ih =>
   intro h;show(match jf 8 a a,lI (jf 8) l l with
    |some x,some y=>some (x&&y)
    |_,_=>none)=some true
   rw[show jf 8 a a=some true from h a fJ,ih λv hv=>h v (jj _ hv)];rfl
 unfold pK;rw[e1];exact e2 l h
variable {G:Nat->Option (Nat->List V->Mo V)}
theorem T5 (h:0<(aa w).length):dH (dy w)=true:=by
 show(match aa w with|[]=>false|_::_=>true)=true;induction hw:aa w using aQ with
 |nil=>rw[hw]at h;simp at h
 |cons c r=>rfl
noncomputable def MV (aA:List V)(v:V)(l:List V):Prop:=l.all dH=true/\l.length<=aA.length+1/\(fl l).length<=(fl aA).length+(iV v).length
theorem RY (h:dH v=true)(h2:aA.all dH=true):MV aA v (i9 aA v):=by
 have plain:MV aA v (aA++[v]):=⟨by rw[lW,h2,lY,h];rfl,by rw[bk];exact bc _,by
  rw[jY,bk];show _+(iV v++[]).length<=_;rw[di];exact bc _⟩
 unfold i9;induction hT:iC v with
 |none=>exact plain
 |some w =>
  refine aG (List.eq_nil_or_concat aA) ?_ (rp ?_)
  ·rintro rfl;exact plain
  ·rintro a0 u rfl;rw[List.concat_eq_append]at *;rw[Bb];induction uQ:(some u).bind iC with
   |none=>exact plain
   |some w2 =>
    clear plain;dsimp only;rw[xP];rw[lW,cc,lY,cc]at h2;refine D1 (uh h hT) ?_;rintro _ fw c cr Zo;have Z3:(fl [u]).length=(aa w2).length:=by
     show(iV u++[]).length=_;rw[di,(uh h2.2.1 uQ).2.1,gK]
    refine⟨?_,by rw[bk,bk];exact iF _,?_⟩
    ·rw[lW,h2.1];show(dH (dy (bB w2 w))&&true)=true;rw[T5 (by rw[gu,Zo];exact HG (fK (Ce _) (cJ _ _)))];rfl
    ·rw[jY,jY,bk (as:=fl a0) (bs:=fl [dy (bB w2 w)]),bk (as:=fl a0) (bs:=fl [u]),fw,Z3,gK];show _+((aa (bB w2 w)).map wj++[]).length<=_;rw[di,gK,gu,JA];exact bc _
noncomputable def wO (G:Nat->Option (Nat->List V->Mo V))(W:Nat->List (ak×V)->Jb)(s f:Nat)(σ:Sg)(k:Nat)(tl:List (ak×V))(L:List V):Prop :=
 ∃bj x,cL s f σ bj/\ay bj f=some (.list L)/\∀r aj,bp aR (bJ G) (W (k+1) [(sl "event",x)]) bj r aj->bp aR (bJ G) (W k tl) σ r aj
structure JT (G:Nat->Option (Nat->List V->Mo V))(W:Nat->List (ak×V)->Jb)(F:List (ak×V)->Fm)(s i f:Nat):Prop where
 t0:∀{σ k tl},l1 (sl "event") tl->fB (.list i k) σ=some none->bp aR (bJ G) (W k tl) σ (.ok (.f .next (F tl))) σ
 t1:∀{σ k tl aA kk r},l1 (sl "event") tl->dO σ s->fB (.list i k) σ=some (some (.tup (.str kk::r),.list i (k+1)))->ay σ f=some (.list aA)->aA.length<=60000->r.length<=10->bg kk (sl "text")=false ->
  wO G W s f σ k tl (aA++[.tup (.str kk::r)])
 t2:∀{σ k tl kk w},l1 (sl "event") tl->dO σ s->fB (.list i k) σ=some (some (.tup [.str kk,.str w],.list i (k+1)))->ay σ f=some (.list [])->bg kk (sl "text")=true ->
  wO G W s f σ k tl ([]++[.tup [.str kk,.str w]])
 t3:∀{σ k tl kk w a0 k2 r2},l1 (sl "event") tl->dO σ s->fB (.list i k) σ=some (some (.tup [.str kk,.str w],.list i (k+1)))->ay σ f=some (.list (a0++[.tup (.str k2::r2)]))->(a0++[V.tup (.str k2::r2)]).length<=60000->r2.length<=10 ->
  bg kk (sl "text")=true->bg k2 (sl "text")=false->wO G W s f σ k tl (a0++[.tup (.str k2::r2)]++[.tup [.str kk,.str w]])
 t4:∀{σ k tl kk w a0 k2 w2},l1 (sl "event") tl->dO σ s->fB (.list i k) σ=some (some (.tup [.str kk,.str w],.list i (k+1)))->ay σ f=some (.list (a0++[.tup [.str k2,.str w2]]))->(a0++[V.tup [.str k2,.str w2]]).length<=60000 ->
  bg kk (sl "text")=true->bg k2 (sl "text")=true->(aa w2).length+(aa w).length<=8000->wO G W s f σ k tl (a0++[dy (bB w2 w)])
theorem JT.turn {W:Nat->List (ak×V)->Jb}(J:JT G W F s i f)(ht:l1 (sl "event") tl)(hs:dO σ s)(nx:fB (.list i k) σ=some (some (v,.list i (k+1))))(hf:ay σ f=some (.list aA))(hl:aA.length<=60000)(hw:(fl aA).length+(iV v).length<=8000)(h1:dH v=true)(h2:aA.all dH=true):wO G W s f σ k tl (i9 aA v):=by
 refine cj (yv h1) ?_;rintro kk r rfl hr hc;refine aG hc (kA ?_) (Er ?_)
 ·rintro gc hT;obtain ej:i9 aA (.tup (.str kk::r))=aA++[.tup (.str kk::r)]:=by unfold i9;rw[hT]
  rw[ej];exact J.t1 ht hs nx hf hl hr gc
 ·clear hc;rintro w gc rfl hT;refine aG (List.eq_nil_or_concat aA) ?_ (rp ?_)
  ·rintro rfl;obtain ej:i9 [] (.tup [.str kk,.str w])=[]++[.tup [.str kk,.str w]]:=by unfold i9;rw[hT];rfl
   rw[ej];exact J.t2 ht hs nx hf gc
  ·rintro a0 u rfl;rw[List.concat_eq_append]at *;rw[lW,cc,lY,cc]at h2;refine cj (yv h2.2.1) ?_;rintro k2 r2 rfl gZ pQ;refine aG pQ (kA ?_) (Er ?_)
   ·rintro lM uQ;obtain ej:i9 (a0++[.tup (.str k2::r2)]) (.tup [.str kk,.str w])=a0++[.tup (.str k2::r2)]++[.tup [.str kk,.str w]]:=by
     unfold i9;rw[hT,Bb,show(some (V.tup (.str k2::r2))).bind iC=none from uQ]
    rw[ej];exact J.t3 ht hs nx hf hl gZ gc lM
   ·clear pQ;rintro w2 lM rfl uQ;obtain ej:i9 (a0++[.tup [.str k2,.str w2]]) (.tup [.str kk,.str w])=a0++[dy (bB w2 w)]:=by
     unfold i9;rw[hT,Bb,show(some (V.tup [.str k2,.str w2])).bind iC=some w2 from uQ,xP]
    rw[ej];refine J.t4 ht hs nx hf hl gc lM ?_;rw[jY,bk,(uh h1 hT).2.1,gK,show(fl [V.tup [.str k2,.str w2]]).length=(aa w2).length by
     show(iV (.tup [.str k2,.str w2])++[]).length=_;rw[di,(uh h2.2.1 uQ).2.1,gK]]at hw
    exact bC (Nat.add_le_add_right (cJ _ _) _) hw
theorem JT.loop {W:Nat->List (ak×V)->Jb}(J:JT G W F s i f)(N9:i≠f)(mF:i≠s):∀(aq aA:List V) (σ:Sg) (k:Nat) (tl:List (ak×V)),es.drop k=aq->aq.all dH=true->aA.all dH=true->dO σ s->ay σ i=some (.list es)->ay σ f=some (.list aA)->aA.length+aq.length<=50000->(fl aA).length+(fl aq).length<=8000->l1 (sl "event") tl ->
 ∃aj fN,cL s f σ aj/\ay aj f=some (.list (jn aA aq))/\l1 (sl "event") fN/\bp aR (bJ G) (W k tl) σ (.ok (.f .next (F fN))) aj
 |[],aA,σ,k,tl,hk,h1,h2,hs,hi,hf,hl,hw,ht=>(dp σ tl ((Ext.uy hs).pB) hf ht (J.t0 ht (y7 hi (vL hk))))
 |v::aq,aA,σ,k,tl,hk,h1,h2,hs,hi,hf,hl,hw,ht=>by
  rw[lY,cc]at h1;rw[dJ]at hl;rw[show fl (v::aq)=iV v++fl aq from rfl,bk]at hw;refine fp (RY h1.1 h2) ?_;rintro j1 j2 j3;refine cj (J.turn ht hs (v5 hi (vP hk)) hf (by clear hw j2 j3;lia) (by clear hl j2 j3;lia) h1.1 h2) ?_;rintro bj x e1 g1 tr;refine dT (J.loop N9 mF aq (i9 aA v) bj (k+1) [(sl "event",x)] (rQ hk).2 h1.2 j1 e1.src (e1.get hi mF N9) g1 (by clear hw j3;lia) (by clear hl j2;lia) (.inr ⟨_,rfl⟩)) ?_;rintro aj fN e2 g2 t2 ev;exact(dp aj fN (e1.trans e2) g2 t2 (tr _ _ ev))
abbrev Ao (d i f:Nat)(tl:List (ak×V)):Fm:=fm xQ ([(sl "events",.ref i),(sl "found",.ref f)]++tl) d
abbrev Yc (d i f k:Nat)(tl:List (ak×V)):Jb:=.fo (Ao d i f tl) (lG (dC xQ).body).1 (.list i k) (lG (dC xQ).body).2
theorem XF {d i f s:Nat}(mE:f≠s):JT G (Yc d i f) (Ao d i f) s i f where
 t0:=λht nx=>by
  focus(refine aG ht ?_ (kE ?_);rintro rfl;rotate_left;rintro y rfl;rotate_left)<;>exact aK 60 [.go,.n none] (λz=>ae nx z)
 t1:=λ{σ k tl aA kk r} ht hs nx hf hl hr gc=>⟨_,.tup (.str kk::r),cL.put hs mE,gM (bK hf),λrr aj ev=>by
  have m:=qs (x:=sl "append") hf rfl;have a:=mX (v:=.tup (.str kk::r)) hf (bC hl (by decide));have i0:=jo (l:=.str kk::r) (k:=0) (v:=.str kk) σ rfl (by rw[dJ];exact tD hr (cJ (kC 10) 16777205));focus(refine aG ht ?_ (kE ?_);rintro rfl;rotate_left;rintro y rfl;rotate_left)<;>exact aK 60 [.go,.n (some (.tup (.str kk::r),.list i (k+1))),.c (.str kk),.b false,.b false,.m (.bi .append) [.ref f],.a (.ok .none) (bG σ f (.list (aA++[.tup (.str kk::r)]))),.j rr aj] (λz=>ae nx (ae i0 (ae gc (ae (aH false) (ae m (ae a (ae ev z)))))))⟩
 t2:=λ{σ k tl kk w} ht hs nx hf gc=>⟨_,.tup [.str kk,.str w],cL.put hs mE,gM (bK hf),λrr aj ev=>by
  have m:=qs (x:=sl "append") hf rfl;have a:=mX (v:=.tup [.str kk,.str w]) hf (by decide);have i0:=jo (l:=[.str kk,.str w]) (k:=0) (v:=.str kk) σ rfl (cJ 2 16777214);have ln:=len_list hf (by decide);focus(refine aG ht ?_ (kE ?_);rintro rfl;rotate_left;rintro y rfl;rotate_left)<;>exact aK 60 [.go,.n (some (.tup [.str kk,.str w],.list i (k+1))),.c (.str kk),.b true,.o (.int 0),.b false,.b false,.m (.bi .append) [.ref f],.a (.ok .none) (bG σ f (.list ([]++[.tup [.str kk,.str w]]))),.j rr aj] (λz=>ae nx (ae i0 (ae gc (ae ln (ae (aH false) (ae (aH false) (ae m (ae a (ae ev z)))))))))⟩
 t3:=λ{σ k tl kk w a0 k2 r2} ht hs nx hf hl gZ gc lM=>⟨_,.tup [.str kk,.str w],cL.put hs mE,gM (bK hf),λrr aj ev=>by
  have m:=qs (x:=sl "append") hf rfl;have a:=mX (v:=.tup [.str kk,.str w]) hf (bC hl (by decide));have i0:=jo (l:=[.str kk,.str w]) (k:=0) (v:=.str kk) σ rfl (cJ 2 16777214);have ln:=len_list hf (bC hl (by decide));have hp:decide (((a0++[V.tup (.str k2::r2)]).length:Int)>0)=true:=decide_eq_true (by rw[bk];exact HF a0.length);have oo:=bC (by rw[bk];exact dK _ _) hl;have il:=item_last hf (bC oo (by decide));have i2:=jo (l:=.str k2::r2) (k:=0) (v:=.str k2) σ rfl (by rw[dJ];exact tD gZ (cJ (kC 10) 16777205));focus(refine aG ht ?_ (kE ?_);rintro rfl;rotate_left;clear ht;rintro y rfl;rotate_left)<;>exact aK 60 [.go,.n (some (.tup [.str kk,.str w],.list i (k+1))),.c (.str kk),.b true,.o (.int (a0++[V.tup (.str k2::r2)]).length),.b true,.o (V.tup (.str k2::r2)),.c (.str k2),.b false,.b false,.m (.bi .append) [.ref f],.a (.ok .none) (bG σ f (.list (a0++[V.tup (.str k2::r2)]++[.tup [.str kk,.str w]]))),.j rr aj] (λz=>ae nx (ae i0 (ae gc (ae ln (ae hp (ae il (ae i2 (ae lM (ae (aH false) (ae m (ae a (ae ev z))))))))))))⟩
 t4:=λ{σ k tl kk w a0 k2 w2} ht hs nx hf hl gc lM hw=>⟨_,.tup [.str kk,.str w],cL.put hs mE,gM (bK hf),λrr aj ev=>by
  have i0:=jo (l:=[.str kk,.str w]) (k:=0) (v:=.str kk) σ rfl (cJ 2 16777214);have ln:=len_list hf (bC hl (by decide));have hp:decide (((a0++[V.tup [.str k2,.str w2]]).length:Int)>0)=true:=decide_eq_true (by rw[bk];exact HF a0.length);have oo:=bC (by rw[bk];exact dK _ _) hl;have il:=item_last hf (bC oo (by decide));have i2:=jo (l:=[.str k2,.str w2]) (k:=0) (v:=.str k2) σ rfl (cJ 2 16777214);have i3:=jo (l:=[.str k2,.str w2]) (k:=1) (v:=.str w2) σ rfl (cJ 2 16777214);have i4:=jo (l:=[.str kk,.str w]) (k:=1) (v:=.str w) σ rfl (cJ 2 16777214);have as:=lE (a:=w2) (b:=w) σ (bC hw (by decide));have se:=RT (v:=dy (bB w2 w)) hf (bC oo (by decide));focus(refine aG ht ?_ (kE ?_);rintro rfl;rotate_left;clear ht;rintro y rfl;rotate_left)<;>exact aK 60 [.go,.n (some (.tup [.str kk,.str w],.list i (k+1))),.c (.str kk),.b true,.o (.int (a0++[V.tup [.str k2,.str w2]]).length),.b true,.o (V.tup [.str k2,.str w2]),.c (.str k2),.b true,.b true,.o (V.tup [.str k2,.str w2]),.c (.str w2),.c (.str w),.o (.str (bB w2 w)),.a (.ok .none) (bG σ f (.list (a0++[dy (bB w2 w)]))),.j rr aj] (λz=>ae nx (ae i0 (ae gc (ae ln (ae hp (ae il (ae i2 (ae lM (ae (aH true) (ae il (ae i3 (ae i4 (ae as (ae se (ae ev z)))))))))))))))⟩
theorem Vp (mF:i≠s)(h1:es.all dH=true)(hs:dO σ s)(hi:ay σ i=some (.list es))(hl:es.length<=50000)(hw:(fl es).length<=8000):∃r aj,Ext s σ aj/\r≠s/\σ.length<=r/\ay aj r=some (.list (jn [] es))/\bp aR (bJ G) (.ca (d+1) (.fn 720) [.ref i]) σ (.ok (.v (.ref r))) aj:=by
 obtain il:= bK hi;obtain nM:=hs.lt;obtain ea:Ext s σ (σ++[O.list []]):=Ext.app hs _;obtain gi:=ea.get hi mF;obtain li:listAt i (σ++[O.list []])=some es:=by unfold listAt;rw[gi]
 refine dT ((XF (G:=G) (d:=d) (i:=i) (f:=σ.length) (s:=s) (i5 (iE nM))).loop (es:=es) (iE il) mF es [] (σ++[O.list []]) 0 [] rfl h1 rfl ea.src gi (cV _ _) (by simp;exact hl) (by show 0+_<=_;lia) (.inl rfl)) ?_;rintro aj fN e1 g1 t1 ev;refine(qu σ.length aj (cL.ext ea e1 (bc _)) (i5 (iE nM)) (bc _) g1 ?_);refine aG t1 ?_ (kE ?_)
 ·rintro rfl;exact aK 60 [.go,.l es,.j (.ok (.f .next (Ao d i σ.length []))) aj] (λz=>ae li (ae ev z))
 ·clear t1;rintro x rfl;exact aK 60 [.go,.l es,.j (.ok (.f .next (Ao d i σ.length [(sl "event",x)]))) aj] (λz=>ae li (ae ev z))
abbrev Al (d i f:Nat)(tl:List (ak×V)):Fm:=fm ya ([(sl "events",.ref i),(sl "found",.ref f)]++tl) d
abbrev jBW (d i f k:Nat)(tl:List (ak×V)):Jb:=.fo (Al d i f tl) (lG (dC ya).body).1 (.list i k) (lG (dC ya).body).2
theorem WS {d i f s:Nat}(mE:f≠s):JT G (jBW d i f) (Al d i f) s i f where
 t0:=λht nx=>by
  focus(refine aG ht ?_ (kE ?_);rintro rfl;rotate_left;rintro y rfl;rotate_left)<;>exact aK 60 [.go,.n none] (λz=>ae nx z)
 t1:=λ{σ k tl aA kk r} ht hs nx hf hl hr gc=>⟨_,.tup (.str kk::r),cL.put hs mE,gM (bK hf),λrr aj ev=>by
  have m:=qs (x:=sl "append") hf rfl;have a:=mX (v:=.tup (.str kk::r)) hf (bC hl (by decide));have i0:=jo (l:=.str kk::r) (k:=0) (v:=.str kk) σ rfl (by rw[dJ];exact tD hr (cJ (kC 10) 16777205));focus(refine aG ht ?_ (kE ?_);rintro rfl;rotate_left;rintro y rfl;rotate_left)<;>exact aK 60 [.go,.n (some (.tup (.str kk::r),.list i (k+1))),.c (.str kk),.b false,.b false,.m (.bi .append) [.ref f],.a (.ok .none) (bG σ f (.list (aA++[.tup (.str kk::r)]))),.j rr aj] (λz=>ae nx (ae i0 (ae gc (ae (aH false) (ae m (ae a (ae ev z)))))))⟩
 t2:=λ{σ k tl kk w} ht hs nx hf gc=>by
  have gn:ay (σ++[O.list []]) σ.length=some (.list []):=cV _ _;have ga:=(dB (r:=[O.list []]) (bK hf)).trans hf;exact⟨_,.tup [.str kk,.str w],(Ext.app hs _).pB.trans (cL.put (Ext.app hs _).src mE),gM (bK ga),λrr aj ev=>by
   have m:=qs (x:=sl "append") ga rfl;have a:=mX (v:=.tup [.str kk,.str w]) ga (by decide);have i0:=jo (l:=[.str kk,.str w]) (k:=0) (v:=.str kk) σ rfl (cJ 2 16777214);have ne:=qn ga gn (b:=true) rfl;focus(refine aG ht ?_ (kE ?_);rintro rfl;rotate_left;rintro y rfl;rotate_left)<;>exact aK 60 [.go,.n (some (.tup [.str kk,.str w],.list i (k+1))),.c (.str kk),.b true,.b false,.b false,.b false,.m (.bi .append) [.ref f],.a (.ok .none) (bG (σ++[O.list []]) f (.list ([]++[.tup [.str kk,.str w]]))),.j rr aj] (λz=>ae nx (ae i0 (ae gc (ae ne (ae (aH false) (ae (aH false) (ae m (ae a (ae ev z)))))))))⟩
 t3:=λ{σ k tl kk w a0 k2 r2} ht hs nx hf hl gZ gc lM=>by
  have gn:ay (σ++[O.list []]) σ.length=some (.list []):=cV _ _;have ga:=(dB (r:=[O.list []]) (bK hf)).trans hf;exact⟨_,.tup [.str kk,.str w],(Ext.app hs _).pB.trans (cL.put (Ext.app hs _).src mE),gM (bK ga),λrr aj ev=>by
   have m:=qs (x:=sl "append") ga rfl;have a:=mX (v:=.tup [.str kk,.str w]) ga (bC hl (by decide));have i0:=jo (l:=[.str kk,.str w]) (k:=0) (v:=.str kk) σ rfl (cJ 2 16777214);have ne:=qn ga gn (b:=false) (by clear ga hf hl;induction a0 using aQ<;>rfl);have oo:=bC (by rw[bk];exact dK _ _) hl;have il:=item_last ga (bC oo (by decide));have i2:=jo (l:=.str k2::r2) (k:=0) (v:=.str k2) (σ++[O.list []]) rfl (by rw[dJ];exact tD gZ (cJ (kC 10) 16777205));focus(refine aG ht ?_ (kE ?_);rintro rfl;rotate_left;clear ht;rintro y rfl;rotate_left)<;>exact aK 60 [.go,.n (some (.tup [.str kk,.str w],.list i (k+1))),.c (.str kk),.b true,.b true,.b true,.o (V.tup (.str k2::r2)),.c (.str k2),.b false,.b false,.m (.bi .append) [.ref f],.a (.ok .none) (bG (σ++[O.list []]) f (.list (a0++[V.tup (.str k2::r2)]++[.tup [.str kk,.str w]]))),.j rr aj] (λz=>ae nx (ae i0 (ae gc (ae ne (ae (aH true) (ae il (ae i2 (ae lM (ae (aH false) (ae m (ae a (ae ev z))))))))))))⟩
 t4:=λ{σ k tl kk w a0 k2 w2} ht hs nx hf hl gc lM hw=>by
  have gn:ay (σ++[O.list []]) σ.length=some (.list []):=cV _ _;have ga:=(dB (r:=[O.list []]) (bK hf)).trans hf;have oo:=bC (by rw[bk];exact dK _ _) hl;have po:=Ua ga (bC oo (by decide));have mp:=qs (x:=sl "pop") ga rfl;have e1:=(Ext.app hs [O.list []]).pB.trans (cL.put (o:=.list a0) (Ext.app hs _).src mE);have gb:ay (bG (σ++[O.list []]) f (.list a0)) f=some (.list a0):=gM (bK ga);have ne:=qn ga gn (b:=false) (by clear ga gb e1 po mp hf hl;induction a0 using aQ<;>rfl);have il:=item_last ga (bC oo (by decide));have i2:=jo (l:=[.str k2,.str w2]) (k:=0) (v:=.str k2) (σ++[O.list []]) rfl (cJ 2 16777214);clear gn ga;revert e1 gb po;generalize bG (σ++[O.list []]) f (.list a0)=xJ;intro po e1 gb;exact⟨_,dy (bB w2 w),e1.trans (cL.put e1.src mE),gM (bK gb),λrr aj ev=>by
   have i0:=jo (l:=[.str kk,.str w]) (k:=0) (v:=.str kk) σ rfl (cJ 2 16777214);have i3:=jo (l:=[.str k2,.str w2]) (k:=1) (v:=.str w2) xJ rfl (cJ 2 16777214);have i4:=jo (l:=[.str kk,.str w]) (k:=1) (v:=.str w) xJ rfl (cJ 2 16777214);have as:=lE (a:=w2) (b:=w) xJ (bC hw (by decide));have ma:=qs (x:=sl "append") gb rfl;have se:=mX (v:=dy (bB w2 w)) gb (bC oo (by decide));focus(refine aG ht ?_ (kE ?_);rintro rfl;rotate_left;clear ht;rintro y rfl;rotate_left)<;>exact aK 60 [.go,.n (some (.tup [.str kk,.str w],.list i (k+1))),.c (.str kk),.b true,.b true,.b true,.o (V.tup [.str k2,.str w2]),.c (.str k2),.b true,.b true,.m (.bi .pop) [.ref f],.a (.ok (V.tup [.str k2,.str w2])) xJ,.c (.str w2),.c (.str w),.o (.str (bB w2 w)),.m (.bi .append) [.ref f],.a (.ok .none) (bG xJ f (.list (a0++[dy (bB w2 w)]))),.j rr aj] (λz=>ae nx (ae i0 (ae gc (ae ne (ae (aH true) (ae il (ae i2 (ae lM (ae (aH true) (ae mp (ae po (ae i3 (ae i4 (ae as (ae ma (ae se (ae ev z)))))))))))))))))⟩
theorem V8 (mF:i≠s)(h1:es.all dH=true)(hs:dO σ s)(hi:ay σ i=some (.list es))(hl:es.length<=50000)(hw:(fl es).length<=8000):∃r aj,Ext s σ aj/\r≠s/\σ.length<=r/\ay aj r=some (.list (jn [] es))/\bp aR (bJ G) (.ca (d+1) (.fn 1074) [.ref i]) σ (.ok (.v (.ref r))) aj:=by
 obtain il:= bK hi;obtain nM:=hs.lt;obtain ea:Ext s σ (σ++[O.list []]):=Ext.app hs _;obtain gi:=ea.get hi mF;obtain li:listAt i (σ++[O.list []])=some es:=by unfold listAt;rw[gi]
 refine dT ((WS (G:=G) (d:=d) (i:=i) (f:=σ.length) (s:=s) (i5 (iE nM))).loop (es:=es) (iE il) mF es [] (σ++[O.list []]) 0 [] rfl h1 rfl ea.src gi (cV _ _) (by simp;exact hl) (by show 0+_<=_;lia) (.inl rfl)) ?_;rintro aj fN e1 g1 t1 ev;refine(qu σ.length aj (cL.ext ea e1 (bc _)) (i5 (iE nM)) (bc _) g1 ?_);refine aG t1 ?_ (kE ?_)
 ·rintro rfl;exact aK 60 [.go,.l es,.j (.ok (.f .next (Al d i σ.length []))) aj] (λz=>ae li (ae ev z))
 ·clear t1;rintro x rfl;exact aK 60 [.go,.l es,.j (.ok (.f .next (Al d i σ.length [(sl "event",x)]))) aj] (λz=>ae li (ae ev z))
variable {G:Nat->Option (Nat->List V->Mo V)}
theorem UD (σ:Sg):gW .Pow (.int 10) (.int 18) σ=some (.ok (.int 1000000000000000000),σ):=by kernel_rfl
theorem TR (σ:Sg)(hl:l.length<=1000):cw .len [.gG l] σ=some (.ok (.int l.length),σ):=by
 show uu l.length σ=_;unfold uu;rw[iI (by lia)];rfl
theorem Rz (σ:Sg)(hl:(a::r).length<=1000):iu (.gG (a::r)) (.int 0) σ=some (.ok (.int a),σ):=by
 show qK ((a::r).map V.int) 0 σ=_;unfold qK;obtain af: place 0 ((a::r).map V.int).length=some 0:=by
  unfold place;rw[gK,iI (by lia)];rfl
 rw[af];rfl
theorem SY (hl:l.length<=1000):∃a b,bp aR (bJ G) (.ca (d+1) (.fn 1032) [.gG l,.int 0]) σ (.ok (.v (.ref σ.length))) (σ++[.list [.int a,.int b]]):=by
 obtain ln:= TR σ hl;obtain p1:=UD σ;have body:∀a:Int,∃x y,gW .Mod (.int (if -1-a>a then -1-a else a)) (.int 2147483629) σ=some (.ok (.int ((if -1-a>a then -1-a else a).fmod 2147483629)),σ)/\gW .Mult (.int 7919) (.int 0) σ=some (.ok (.int (7919*0)),σ)/\gW .Mult (.int (7919*0)) (.int 0) σ=some (.ok (.int (7919*0*0)),σ)/\gW .Mult (.int 31) (.int 0) σ=some (.ok (.int (31*0)),σ) /\
  gW .Mult (.int ((if -1-a>a then -1-a else a).fmod 2147483629+7919*0*0+31*0+17)) (.int 48271) σ=some (.ok (.int (((if -1-a>a then -1-a else a).fmod 2147483629+7919*0*0+31*0+17)*48271)),σ) /\
  gW .Mod (.int (((if -1-a>a then -1-a else a).fmod 2147483629+7919*0*0+31*0+17)*48271)) (.int 2147483647) σ=some (.ok (.int y),σ) /\
  gW .Mult (.int (if -1-a>a then -1-a else a)) (.int (match decide ((if -1-a>a then -1-a else a)>=1000000000000000000) with|true=>1|false=>0)) σ=some (.ok (.int x),σ):=by
  intro a;refine⟨_,_,tY σ (by lia),rR σ rfl,rR σ rfl,rR σ rfl,rR σ rfl,tY σ (by lia),rR σ ?_⟩;induction decide ((if -1-a>a then -1-a else a)>=1000000000000000000)<;>rfl
 induction l using aQ with
 |nil =>
  refine Ib (body 0) ?_;rintro x y c1 c2 c3 c4 c5 c6 c7;refine(d7 x y ?_);exact aK 100 [.go,.o (.int 0),.b false,.o (.int ((if -1-(0:Int)>0 then -1-0 else 0).fmod 2147483629)),.o (.int (7919*0)),.o (.int (7919*0*0)),.o (.int (31*0)),.o (.int (((if -1-(0:Int)>0 then -1-0 else 0).fmod 2147483629+7919*0*0+31*0+17)*48271)),.o (.int y),.o (.int 1000000000000000000),.o (.int x)] (λz=>ae ln (ae (aH false) (ae c1 (ae c2 (ae c3 (ae c4 (ae c5 (ae c6 (ae p1 (ae c7 z))))))))))
 |cons a r =>
  refine Ib (body a) ?_;rintro x y c1 c2 c3 c4 c5 c6 c7;obtain it:= Rz σ hl;obtain hb: decide ((0:Int)<((a::r).length:Nat))=true:=decide_eq_true (by rw[dJ];lia);refine(d7 x y ?_);exact aK 100 [.go,.o (.int (a::r).length),.b true,.c (.int a),.o (.int ((if -1-a>a then -1-a else a).fmod 2147483629)),.o (.int (7919*0)),.o (.int (7919*0*0)),.o (.int (31*0)),.o (.int (((if -1-a>a then -1-a else a).fmod 2147483629+7919*0*0+31*0+17)*48271)),.o (.int y),.o (.int 1000000000000000000),.o (.int x)] (λz=>ae ln (ae hb (ae it (ae c1 (ae c2 (ae c3 (ae c4 (ae c5 (ae c6 (ae p1 (ae c7 z)))))))))))
variable {G:Nat->Option (Nat->List V->Mo V)}
noncomputable def YR (s:bO):Option Cp:=sD s none (vZ:=λZ x Z=>eD x none (qw:=λes Z Z=>(EH es).bind λp=>eD p.2 none (rO:=λlc Z Z Z=>AX lc)))
 (Av:=λt Z Z Z=>eD t none (rO:=λZ Z xs Z=>(wR xs).bind AX))
noncomputable def AH (k:Nat):Cp:=match (ay (dC pg).body k).bind YR with
 |some c=>c
 |none=>⟨.Name (sl "") ⟨0,0,0,0⟩,.Name (sl "") ⟨0,0,0,0⟩,[],(dC pg).scope⟩
noncomputable def Zj (k d:Nat)(loc:List (ak×V)):Fm:={sc:=(AH k).sc,loc:=loc,cz:=[],d:=d,ro:=[]}
abbrev X5 (k d:Nat)(loc:List (ak×V))(it:It)(aA:Nat):Jb:=.cp (Zj k d loc) (AH k).elt (AH k).tg (AH k).ifs it aA
noncomputable def s9 (v:V):Bool:=match v with
 |.tup (.str k::_)=>bg k (sl "doctype")
 |_=>false
theorem yW (pP:ix=2\/ix=5)(GV:i≠aA)(mF:i≠s)(has:aA≠s):∀(aq a:List V) (σ:Sg) (m:Nat) (loc:List (ak×V)),es.drop m=aq->aq.all dH=true->dO σ s->ay σ i=some (.list es)->ay σ aA=some (.list a)->a.length+aq.length<=50000->l1 (sl "event") loc ->
 ∃aj,cL s aA σ aj/\ay aj aA=some (.list (a++aq.filter s9))/\bp aR (bJ G) (X5 ix d loc (.list i m) aA) σ (.ok (.v (.ref aA))) aj
 |[],a,σ,m,loc,hk,h1,hs,hi,ha,hl,ht=>by
  refine(cO σ ((Ext.uy hs).pB) (by rw[List.filter_nil,di];exact ha) ?_);obtain nx:=y7 hi (vL hk);focus(refine aG pP ?_ ?_;rintro rfl;rotate_left;rintro rfl;rotate_left)<;>focus(refine aG ht ?_ (kE ?_);rintro rfl;rotate_left;clear ht;rintro x rfl;rotate_left)<;>exact aK 60 [.go,.n none] (λz=>ae nx z)
 |v::aq,a,σ,m,loc,hk,h1,hs,hi,ha,hl,ht=>by
  rw[lY,cc]at h1;rw[dJ]at hl;obtain nx:=v5 hi (vP hk);obtain q8:=(rQ hk).2;refine cj (yv h1.1) ?_;rintro kk r rfl hr _;have i0:=jo (l:=.str kk::r) (k:=0) (v:=.str kk) σ rfl (by rw[dJ];lia);induction hD:bg kk (sl "doctype") with
  |true =>
   obtain ap:=mX (v:=.tup (.str kk::r)) ha (by lia);obtain e1:=cL.put hs has;refine cy (yW (d:=d) pP GV mF has aq (a++[.tup (.str kk::r)]) (bG σ aA (.list (a++[.tup (.str kk::r)]))) (m+1) [(sl "event",.tup (.str kk::r))] q8 h1.2 e1.src (e1.get hi mF GV) (gM (bK ha)) (by rw[bk];simp;lia) (.inr ⟨_,rfl⟩)) ?_;rintro aj e2 g2 ev;refine(cO aj (e1.trans e2) ?_ ?_)
   ·rw[g2,oN,show s9 (.tup (.str kk::r))=true from hD,bM];rfl
   ·focus(refine aG pP ?_ ?_;clear pP;rintro rfl;rotate_left;clear pP;rintro rfl;rotate_left)<;>focus(refine aG ht ?_ (kE ?_);rintro rfl;rotate_left;clear ht;rintro x rfl;rotate_left)<;>exact aK 60 [.go,.n (some (.tup (.str kk::r),.list i (m+1))),.c (.str kk),.b true,.b true,.a (.ok .none) (bG σ aA (.list (a++[.tup (.str kk::r)]))),.j (.ok (.v (.ref aA))) aj] (λz=>ae nx (ae i0 (ae hD (ae (aH true) (ae ap (ae ev z))))))
  |false =>
   refine cy (yW (d:=d) pP GV mF has aq a σ (m+1) [(sl "event",.tup (.str kk::r))] q8 h1.2 hs hi ha (by lia) (.inr ⟨_,rfl⟩)) ?_;rintro aj e2 g2 ev;refine(cO aj e2 ?_ ?_)
   ·rw[g2,oN,show s9 (.tup (.str kk::r))=false from hD];rfl
   ·focus(refine aG pP ?_ ?_;clear pP;rintro rfl;rotate_left;clear pP;rintro rfl;rotate_left)<;>focus(refine aG ht ?_ (kE ?_);rintro rfl;rotate_left;clear ht;rintro x rfl;rotate_left)<;>exact aK 60 [.go,.n (some (.tup (.str kk::r),.list i (m+1))),.c (.str kk),.b false,.b false,.j (.ok (.v (.ref aA))) aj] (λz=>ae nx (ae i0 (ae hD (ae (aH false) (ae ev z)))))
noncomputable def kQ (v:V):Bool:=dH v&&(!s9 v&&match jf 8 v v with|some true=>true|_=>false)
theorem Ko {l:List V}(h:l.all kQ=true):l.all dH=true:=by
 rw[pZ]at h ⊢;intro v hv;obtain af:= h v hv;exact(jP.mp af).1
set_option tactic.hygienic true in
theorem Kx {l:List V}(h:l.all kQ=true):∀v∈l,vq v:=by
 rw[pZ]at h;intro v hv;obtain af:= h v hv;unfold kQ at af;rw[cc,cc]at af;obtain h2:= af.2.2;clear af;unfold vq;revert h2;induction jf 8 v v with
 |none=>exact λh=>fT h
 |some b=>induction b with
  |false=>exact λh=>fT h
  |true=>exact λZ=>rfl
theorem CO:∀{l:List V},l.all kQ=true->l.filter s9=[]
 |[],_=>rfl
 |v::l,h=>by
  rw[lY,cc]at h;obtain h1:= h.1;have h1:=(jP.mp (jP.mp h1).2).1;rw[xV]at h1;rw[oN,h1,CO h.2];rfl
theorem QV:jZ.all (λp=>p.2.all kQ&&fG (fl p.2).length 20)=true:=by kernel_rfl
theorem QJ:qx.all (λp=>p.2.all kQ&&fG (fl p.2).length 20)=true:=by kernel_rfl
theorem QL:ua.all (λp=>p.2.all kQ&&fG (fl p.2).length 20)=true:=by kernel_rfl
theorem Sw:sG.all (λp=>[V.tup [.str (sl "start"),.str (sl "a"),p.2]].all kQ&&fG (fl [V.tup [.str (sl "start"),.str (sl "a"),p.2]]).length 20)=true:=by kernel_rfl
theorem CL {T:List (ak×List V)}(h:T.all (λp=>p.2.all kQ&&fG (fl p.2).length 20)=true)(hp:p∈T):p.2.all kQ=true/\(fl p.2).length<=20:=by
 have af:=pZ.mp h p hp;rw[cc]at af;exact⟨af.1,dA af.2⟩
theorem JJ:∀(L:List (ak×List V)),(∀p∈L,p∈jZ)->(lU L).all kQ=true/\(fl (lU L)).length<=20*L.length
 |[],_=>⟨rfl,bc _⟩
 |p::r,h=>by
  obtain h1:=JJ r (λq hq=>h q (jj _ hq));obtain h2:=CL QV (h p fJ);constructor
  ·show(p.2++lU r).all kQ=true;rw[lW,h1.1,h2.1];rfl
  ·show(fl (p.2++lU r)).length<=_;rw[jY,bk,dJ];lia
noncomputable def kT:Bool->List V
 |true=>[ju]
 |false=>[]
theorem JQ {D:Doc}(ok:D.Ok):∃l1 l2,D.aM=l1++kT D.ai++l2/\l1.all kQ=true/\l2.all kQ=true/\(fl D.aM).length<=300/\D.aM.length<=1000:=by
 obtain h1:=CL QJ ok.head;have h2:=JJ D.parts ok.parts;have h3:=CL QL ok.tail;obtain h4:=pZ.mp Sw _ ok.val;rw[cc]at h4;obtain h5:= dA h4.2;obtain hl:=ok.len;obtain e0: (dw D.head D.ai).2=D.head.2++kT D.ai:=by
  induction D.ai
  ·exact(di _).symm
  ·rfl
 obtain e:D.aM=D.head.2++kT D.ai++([V.tup [.str (sl "start"),.str (sl "a"),D.val.2]]++lU D.parts++[.tup [.str (sl "end"),.str (sl "a")]]++D.tail.2):=by
  show nz ((dw D.head D.ai).2++[.tup [.str (sl "start"),.str (sl "a"),D.val.2]]) D.parts++[.tup [.str (sl "end"),.str (sl "a")]]++D.tail.2=_;(rewrite[C4,e0];try(with_reducible rfl));simp only[bM]
 obtain n1:= (Cb _ ok.head).2;obtain n2:= Cu D.parts ((dw D.head D.ai).2++[V.tup [.str (sl "start"),.str (sl "a"),D.val.2]]) ok.parts;obtain n3:= (yn _ ok.tail).2;obtain n4:= (Cq (ai:=D.ai) ok.head).2;refine(qu _ _ e h1.1 ?_ ?_ ?_)
 ·(rewrite[lW,lW,lW,h4.1,h2.1,h3.1];try(with_reducible rfl));rfl
 ·(rewrite[e,jY,jY,sZ,bk,bk,bk,bk,bk];try(with_reducible rfl));obtain q1: (fl (kT D.ai)).length<=1:=by induction D.ai<;>decide
  obtain q2:(fl [V.tup [.str (sl "end"),.str (sl "a")]]).length=1:=rfl;lia
 ·show(nz ((dw D.head D.ai).2++[V.tup [.str (sl "start"),.str (sl "a"),D.val.2]]) D.parts++[V.tup [.str (sl "end"),.str (sl "a")]]++D.tail.2).length<=_;rw[bk,bk]at *;simp only[oJ]at *;lia
noncomputable def hO:Nat->Option (Nat->List V->Mo V):=λn=>match n with
 | 0=>some (fM aR cG 840 fU)
 | 1=>some (fM aR (bJ lK) 1093 rS)
 |_=>none
noncomputable def Fi (l:List Int)(d:Nat)(tl:List (ak×V)):Fm:=fm pg ([(sl "script",.gG l)]++tl) d
theorem Pf (ok:ng ai parts (some (es,c)))(hi:ay σ i=some (.list (bN parts)))(hj:ay σ j=some (.list []))(kR:i≠j)(mJ:es.all dH=true):bp aR (bJ hO) (.ca (d+23) (.fn 1093) [.ref i,.ref j,.bool ai]) σ (.ok (.v (.ref σ.length))) (bG σ j (.list c.jh)++[.list es]) :=
 oU (P:=aR) (Γ:=bJ hO) (a:=1093) (r:=.ok (.ref σ.length)) rfl (R1 ok hi hj kR (by lia) (JX mJ))
theorem Ht (ok:ng ai parts none)(hi:ay σ i=some (.list (bN parts)))(hj:ay σ j=some (.list []))(kR:i≠j):∃aj,(∃o,aj=bG σ j o)/\bp aR (bJ hO) (.ca (d+23) (.fn 1093) [.ref i,.ref j,.bool ai]) σ (.ok (.v .none)) aj:=by
 refine oE (RC (d:=d+23) ok hi hj kR (by lia)) ?_;rintro c h;exact(aP _ ⟨_,rfl⟩ (oU (P:=aR) (Γ:=bJ hO) (a:=1093) (r:=.ok .none) rfl h))
theorem SV {D:Doc}(ok:D.Ok):D.aM.filter s9=kT D.ai/\D.aM.all dH=true/\∀v∈D.aM,vq v:=by
 refine nV (JQ ok) ?_;rintro l1 l2 e c1 c2 _ _;obtain k: ∀b:Bool,(kT b).filter s9=kT b/\(kT b).all dH=true/\∀v∈(kT b),vq v:=by
  intro b;induction b
  ·exact(dg rfl rfl (λv h=>by cases h))
  ·refine(dg (by kernel_rfl) (by kernel_rfl) (λv h=>?_));rw[iD.mp h];show jf 8 ju ju=some true
   kernel_rfl
 refine fp (k D.ai) ?_;rintro k1 k2 k3;refine(dg ?_ ?_ ?_)
 ·rw[e,List.filter_append,List.filter_append,CO c1,CO c2,k1,vt,di]
 ·rw[e,lW,lW,Ko c1,Ko c2,k2];rfl
 ·intro v hv;rw[e]at hv;refine aG (rJ.mp hv) ?_ ?_
  ·rintro hv;refine aG (rJ.mp hv) ?_ ?_
   ·rintro hv;exact Kx c1 v hv
   ·rintro hv;exact k3 v hv
  ·rintro hv;exact Kx c2 v hv
theorem JI:∀(a b:List ak),cat (a++b)=cat a++cat b
 |[],b=>rfl
 |x::a,b=>by
  show aa x++cat (a++b)=(aa x++cat a)++cat b;rw[JI a b,bM]
theorem Cm (σ:Sg)(ht:(aa t).length<=4096)(hn:n<=(aa t).length):js (.str t) none (some (.int (n:Nat))) σ=some (.ok (.str (aw ((aa t).take n))),σ):=by
 obtain e: js (.str t) none (some (.int (n:Nat)))=(match fits (aa t).length with
  |false=>no
  |true=>rt (V.str (iz t 0 (min n (aa t).length)))):=rfl
 rw[e,iI (by lia),nP hn];rfl
theorem HS (σ:Sg)(ht:(aa t).length<=4096)(hn:n<=(aa t).length):js (.str t) (some (.int (n:Nat))) none σ=some (.ok (.str (aw ((aa t).drop n))),σ):=by
 obtain e: js (.str t) (some (.int (n:Nat))) none=(match fits (aa t).length with
  |false=>no
  |true=>rt (V.str (iz t (min n (aa t).length) (aa t).length))):=rfl
 rw[e,iI (by lia),nP hn];show some (Rs.ok (V.str (aw (((aa t).take (aa t).length).drop n))),σ)=_;rw[vk]
theorem K7:∀{es},es.all dH=true->es.length<=(fl es).length
 |[],_=>fP _
 |v::r,h=>by
  rw[lY,cc]at h;obtain h1:=K7 h.2;show _<=(iV v++fl r).length;(rewrite[bk,dJ];try(with_reducible rfl));have af:1<=(iV v).length:=by
   induction e:iC v with
   |none=>(rewrite[Lz h.1 e];try(with_reducible rfl));simp
   |some w =>
    refine D1 (uh h.1 e) ?_;rintro _ e2 c cr hw;(rewrite[e2,hw];try(with_reducible rfl));simp
  lia
set_option maxHeartbeats 2000000 in
theorem UR (hl:l.length<=1000):∃cg aj,bp aR (bJ hO) (.ss (Fi l (d+40) []) (dC pg).body) σ (.ok (.f (.ret (.bool true)) cg)) aj:=by
 obtain⟨a,b,p1⟩:=SY (G:=hO) (d:=d+39) hl;generalize hq:σ.length=q at p1;generalize qO:σ++[O.list [.int a,.int b]]=bj at p1;obtain s1:dO bj q:=by(rewrite[<- qO,<- hq];try(with_reducible rfl));exact(d7 a b (cV _ _))
 refine BA (Qx (G:=hO) (d:=d+35) s1) ?_;rintro D aY r e ok Aq hrq kL gr ge p2;obtain df:=SW ok;refine fp (SV ok) ?_;rintro Oa zF Zw;refine nV (JQ ok) ?_;rintro _ _ _ _ _ aag aan;obtain lr: listAt r aY=some [.str D.text,.ref e,.int (aa D.fk).length]:=by unfold listAt;rw[gr]
 have s2:=Aq.src;have q2:=s2.lt;have er:=bK ge;generalize hj:aY.length=j at *;generalize zp:aY++[O.list []]=pw;have E2:Ext q aY pw:=by rw[<- zp];exact Ext.app s2 _
 have VX:pw.length=j+1:=by rw[<- zp,<- hj];simp
 obtain MX: ay pw j=some (.list []):=by rw[<- zp,<- hj];exact cV _ _
 obtain AJ:=E2.get ge kL;obtain YY: listAt e pw=some D.aM:=by unfold listAt;rw[AJ]
 obtain AS:Ext q pw (pw++[.list []]):=Ext.app E2.src _;refine cy (yW (G:=hO) (ix:=2) (d:=d+40) (i:=e) (aA:=pw.length) (s:=q) (es:=D.aM) (.inl rfl) (by lia) kL (by lia) D.aM [] (pw++[.list []]) 0 [] rfl zF AS.src (AS.get AJ kL) (cV _ _) (by simp;lia) (.inl rfl)) ?_;rintro eX x3 g3 p3;rw[vt,Oa]at g3;have s8:=cL.ext AS x3 (bc _);obtain MW:= s8.get MX (by lia);obtain ZK:= s8.get AJ kL;have l3:=x3.le;rw[bk,oJ]at l3;generalize zB:eX++[O.list []]=wW;have xE:Ext q eX wW:=by rw[<- zB];exact Ext.app s8.src _
 obtain gn: ay wW eX.length=some (.list []):=by rw[<- zB];exact cV _ _
 obtain c3: fZ .NotEq (.ref pw.length) (.ref eX.length) wW=some (.ok D.ai,wW):=by
  obtain af:= qn (xE.get g3 (by lia)) gn (b:=!D.ai) (by induction D.ai<;>rfl);rw[Bool.not_not]at af;exact af
 have Vt:wW.length=eX.length+1:=by rw[<- zB];simp
 obtain LQ:= xE.get MW (by lia);obtain LY:= xE.get ZK kL;have aau:(aa D.text).length<=250:=by
  (rewrite[rP,bk,bk,bk];try(with_reducible rfl));obtain t1:= J7 ok;obtain t2:= Ct D.parts ok.parts;obtain t3:= ok.len;obtain t4:= (yn _ ok.tail).1;obtain t5: (aa (sl "</a >")).length=5:=by kernel_rfl
  lia
 refine yh (yq (G:=hO) (d:=d+36) (t:=D.text) xE.src (by lia)) ?_;rintro ZO r4 dz W8 n1 xA hr4 Xq g4 p4;refine dT (df.v ZO (by lia) W8) ?_;rintro es c fo Gk Zp mJ;have GN:=xA.get LQ (by lia);obtain p5:= Pf (d:=d+17) fo g4 GN (by lia) mJ;obtain XK: c.jh=kT D.ai:=by
  unfold Co.jh;rw[Zp];induction D.ai<;>rfl
 rw[XK]at p5;generalize sL:bG dz j (.list (kT D.ai))++[O.list es]=jA at p5;obtain G1:cL q j dz (bG dz j (.list (kT D.ai))):=cL.put xA.src (by lia);have x5:Ext q (bG dz j (.list (kT D.ai))) jA:=by rw[<- sL];exact Ext.app G1.src _
 obtain l4:=kz _ _ _;obtain Z8:= xA.le;obtain M1:=x5.get (gM (bK GN)) (by lia);have Nz:=x5.get (G1.get (xA.get LY kL) kL (by lia)) kL;obtain Yg: ay jA dz.length=some (.list es):=by
  obtain af:= cV (bG dz j (O.list (kT D.ai))) (O.list es);rw[sL,l4]at af;exact af
 obtain Wh: es.length<=50000:=by
  obtain af:= K7 mJ;rw[Gk]at af;lia
 refine nV (Vp (G:=hO) (d:=d+39) (i:=dz.length) (s:=q) (by lia) mJ x5.src Yg Wh (by rw[Gk];lia)) ?_;rintro r6 ez Ay Y9 aao g6 p6;refine nV (V8 (G:=hO) (d:=d+39) (i:=e) (s:=q) kL zF Ay.src (Ay.get Nz kL) (by lia) (by lia)) ?_;rintro r7 de pF GL aas g7 p7;obtain NV:= pF.get g6 Y9;obtain c7: fZ .NotEq (.ref r6) (.ref r7) de=some (.ok false,de):=by
  obtain e1: jn [] es=jn [] D.aM:=by rw[Ee _ _ mJ,Ee _ _ zF,Gk]
  rw[e1]at NV;exact qn NV g7 (b:=true) (Rr (Lw _ _ Zw (λv h=>by cases h)))
 obtain EZ:=pF.get (Ay.get M1 (by lia)) (by lia);have Ge:=pF.get (Ay.get Nz kL) kL;obtain Yx: listAt e de=some D.aM:=by unfold listAt;rw[Ge]
 have E7:Ext q de (de++[.list []]):=Ext.app pF.src _;obtain er7:= bK Ge;obtain Y6:= bK EZ;refine cy (yW (G:=hO) (ix:=5) (d:=d+40) (i:=e) (aA:=de.length) (s:=q) (es:=D.aM) (.inr rfl) (by lia) kL (by have af:=pF.src.lt;lia) D.aM [] (de++[.list []]) 0 [] rfl zF E7.src (E7.get Ge kL) (cV _ _) (by simp;lia) (.inl rfl)) ?_;rintro mI x8 g8 p8;rw[vt,Oa]at g8;have NT:=cL.ext E7 x8 (bc _);obtain Nc:= NT.get EZ (by lia);obtain c8:fZ .NotEq (.ref j) (.ref de.length) mI=some (.ok false,mI):=qn Nc g8 (b:=true) (by induction D.ai<;>kernel_rfl);refine dT (tM (G:=hO) (d:=d+38) (top:=(aa D.fk).length+1) NT.src (by lia)) ?_;rintro v1 lR ZY FU Yw p9;refine oE (u6 ZY) ?_;rintro k rfl;have Ku:(aa D.fk).length<=(aa D.text).length:=by
  (rewrite[rP,<- bM,<- qp,bk];try(with_reducible rfl));lia
 obtain ZL:=Cm (t:=D.text) (n:=k) lR (by lia) (by lia);refine yh (yq (G:=hO) (d:=d+36) (t:=aw ((aa D.text).take k)) Yw.src (by rw[pY];lia)) ?_;rintro Ym AD pn XJ n2 Mg WU aad uF iS;obtain Ew:Ext q pn (pn++[.list []]):=Ext.app Mg.src _;refine aO (Ht (d:=d+17) (df.t Ym k (by lia) (by lia) XJ) (σ:=pn++[.list []]) (i:=AD) (j:=pn.length) (Ew.get uF WU) (cV _ _) (by have af:=bK uF;lia)) ?_;rintro ur ⟨o11,Xc⟩ Yp;obtain xe:Ext q pn ur:=by
  rw[Xc];exact cL.ext Ew (cL.put Ew.src (by have af:=Mg.src.lt;lia)) (bc _)
 obtain XE: Ext q ur (ur++[.list [.int 2,.int 2,.int 1,.int 3]]):=Ext.app xe.src _;refine dG (BU (G:=hO) (d:=d+37) (t:=ur.length) (l:=[.int 2,.int 2,.int 1,.int 3]) (σ:=ur++[.list [.int 2,.int 2,.int 1,.int 3]]) XE.src (cV _ _) (by have af:=xe.src.lt;lia) (by intro h;exact nC gq h rfl) (by decide)) ?_;rintro km vm zG w6 XO Ah;obtain⟨mm,hmm,rfl⟩:∃mm:Nat,mm<=3/\vm=.int (mm:Nat):=by
  obtain hk4:=bK w6;obtain af: km=0\/km=1\/km=2\/km=3:=by
   have af:([V.int 2,.int 2,.int 1,.int 3]).length=4:=rfl;lia
  focus(refine Z9 af ?_ ?_ ?_ ?_;clear af;rintro rfl;rotate_left;clear af;rintro rfl;rotate_left;clear af;rintro rfl;rotate_left;clear af;rintro rfl;rotate_left)
  ·(refine aT w6 ?_);exact(aP 2 (by lia) rfl)
  ·(clear Ah;refine aT w6 ?_);exact(aP 2 (by lia) rfl)
  ·(clear Ah;refine aT w6 ?_);exact(aP 1 (by lia) rfl)
  ·(clear Ah;refine aT w6 ?_);exact(aP 3 (by lia) rfl)
 obtain sA:= Cm (t:=D.text) (n:=(aa D.fk).length) zG (by lia) Ku;obtain eA: (aa D.text).take (aa D.fk).length=aa D.fk:=by(rewrite[rP,<- bM,<- qp,ye];try(with_reducible rfl))
 have eB:(aa D.text).drop (aa D.fk).length=aa (sl "</a >")++aa D.tail.1:=by(rewrite[rP,<- bM,<- qp,List.drop_left];try(with_reducible rfl))
 rw[eA]at sA;obtain sB:=Cm (t:=sl "]]>") (n:=mm) zG (by decide) (by show mm<=3;lia);obtain aB:=lE (a:=aw (aa D.fk)) (b:=aw ((aa (sl "]]>")).take mm)) zG (by show(aa D.fk).length+((aa (sl "]]>")).take mm).length<=_;rw[pY];lia);have bl:((aa (sl "]]>")).take mm).length<=3:=by
  rw[pY];have af:(aa (sl "]]>")).length=3:=by kernel_rfl
  lia
 refine yh (yq (G:=hO) (d:=d+36) (t:=bB (aw (aa D.fk)) (aw ((aa (sl "]]>")).take mm))) XO.src (by rw[gu];show(aa D.fk).length+((aa (sl "]]>")).take mm).length<=_;lia)) ?_;rintro u4 Gr zP Xp n3 V6 Xg aaf YE YH;obtain sC:=HS (t:=sl "]]>") (n:=mm) zP (by decide) (by show mm<=3;lia);obtain sD:= HS (t:=D.text) (n:=(aa D.fk).length) zP (by lia) Ku;rw[eB]at sD;have bd2:((aa (sl "]]>")).drop mm).length<=3:=by
  rw[nN];obtain af: (aa (sl "]]>")).length=3:=by kernel_rfl
  lia
 have bt:(aa (sl "</a >")++aa D.tail.1).length<=250:=by
  obtain af:= congrArg ew eB;rw[nN]at af;lia
 obtain aD:= lE (a:=aw ((aa (sl "]]>")).drop mm)) (b:=aw (aa (sl "</a >")++aa D.tail.1)) zP (by show((aa (sl "]]>")).drop mm).length+(aa (sl "</a >")++aa D.tail.1).length<=_;lia);refine yh (yq (G:=hO) (d:=d+36) (t:=bB (aw ((aa (sl "]]>")).drop mm)) (aw (aa (sl "</a >")++aa D.tail.1))) V6.src (by rw[gu];show((aa (sl "]]>")).drop mm).length+(aa (sl "</a >")++aa D.tail.1).length<=_;lia)) ?_;rintro uW Fd sS XS n4 D5 aaq aab X7 Yi;obtain ad:= add_list (D5.get YE Xg) X7 (by rw[gK,gK];lia);obtain hv: bN u4++bN uW=bN (u4++uW):=(vz ..).symm;rw[hv]at ad;generalize LK:sS++[O.list (bN (u4++uW))]=sI at ad;obtain VI: Ext q sS sI:=by rw[<- LK];exact Ext.app D5.src _
 obtain NP:ay sI sS.length=some (.list (bN (u4++uW))):=by rw[<- LK];exact cV _ _
 obtain XW: Ext q sI (sI++[.list []]):=Ext.app VI.src _;obtain Xf: cat (u4++uW)=aa D.fk++(93::93::62::(aa (sl "</a >")++aa D.tail.1)):=by
  rw[JI,Xp,XS];show(aa D.fk++(aa (sl "]]>")).take mm)++((aa (sl "]]>")).drop mm++(aa (sl "</a >")++aa D.tail.1))=_;rw[bM,<- bM ((aa (sl "]]>")).take mm),tC];rfl
 obtain AI:= D5.src.lt;refine aO (Ht (d:=d+17) (df.s (u4++uW) (by rw[bk];lia) Xf) (σ:=sI++[.list []]) (i:=sS.length) (j:=sI.length) (XW.get NP (by lia)) (cV _ _) (by have af:=bK NP;lia)) ?_;rintro LW ⟨o16,aat⟩ Y4;clear Y6 er g3 AJ LY MX MW LQ GN M1 EZ Nc gn Xq sL l3 Z8 l4 VX Vt q2 s8 E2 AS x3 xA xE G1 x5;subst zp zB hj;refine(d7 (Fi l (d+40) [(sl "source",.ref q),(sl "text",.str D.text),(sl "events",.ref e),(sl "end",.int (aa D.fk).length),(sl "doctypes",.ref aY.length),(sl "is_late",.bool D.ai),(sl "told",.ref dz.length),(sl "middle",.int mm),(sl "spoilt",.ref sS.length)]) LW ?_);exact aK 100 [.a (.ok (.ref q)) bj,.a (.ok (.ref r)) aY,.l [.str D.text,.ref e,.int (aa D.fk).length],.l D.aM,.j (.ok (.v (.ref (aY++[O.list []]).length))) eX,.b D.ai,.a (.ok (.ref r4)) dz,.a (.ok (.ref dz.length)) jA,.b false,.a (.ok (.ref r6)) ez,.a (.ok (.ref r7)) de,.b false,.b false,.b false,.l D.aM,.j (.ok (.v (.ref de.length))) mI,.b false,.b false,.a (.ok (.int k)) lR,.o (.str (aw ((aa D.text).take k))),.a (.ok (.ref AD)) pn,.a (.ok .none) ur,.b false,.a (.ok (.int mm)) zG,.o (.str (aw (aa D.fk))),.o (.str (aw ((aa (sl "]]>")).take mm))),.o (.str (bB (aw (aa D.fk)) (aw ((aa (sl "]]>")).take mm)))),.a (.ok (.ref Gr)) zP,.o (.str (aw ((aa (sl "]]>")).drop mm))),.o (.str (aw (aa (sl "</a >")++aa D.tail.1))),.o (.str (bB (aw ((aa (sl "]]>")).drop mm)) (aw (aa (sl "</a >")++aa D.tail.1)))),.a (.ok (.ref Fd)) sS,.a (.ok (.ref sS.length)) sI,.a (.ok .none) LW] (λz=>ae p1 (ae p2 (ae lr (ae YY (ae p3 (ae c3 (ae p4 (ae p5 (ae (aH false) (ae p6 (ae p7 (ae c7 (ae (aH false) (ae (aH false) (ae Yx (ae p8 (ae c8 (ae (aH false) (ae p9 (ae ZL (ae iS (ae Yp (ae (aH false) (ae Ah (ae sA (ae sB (ae aB (ae YH (ae sC (ae sD (ae aD (ae Yi (ae ad (ae Y4 z))))))))))))))))))))))))))))))))))
end Zq
end
section
set_option tactic.hygienic false
namespace Zq
open PySem PySem.W PySem.W.X PySem.Calls PyProof.Rows
noncomputable def qB (T:BT):Nat->Nat->bz
 | 0,_=>[]
 |k+1,a=>match bx a TT with
  |true=>qB T k (a+1)
  |false=>match T.get a with
   |some o=>(match alive o with
    |some o=>(a,o)::qB T k (a+1)
    |none=>qB T k (a+1))
   |none=>qB T k (a+1)
set_option tactic.hygienic true in
theorem BV {T:BT}{b:Nat}{o:cI}:∀{k a:Nat},(qB T k a).lookup b=some o->a<=b/\b<a+k/\b≠TT/\∃x,T.get b=some x/\alive x=some o
 | 0,_,e=>by cases e
 |k+1,a,e=>by
  have up:(qB T k (a+1)).lookup b=some o->a<=b/\b<a+(k+1)/\b≠TT/\∃x,T.get b=some x/\alive x=some o:=λe=>by
   obtain⟨h1,h2,h3⟩:=BV e;exact⟨by lia,by lia,h3⟩
  unfold qB at e;split at e
  ·exact up e
  ·rename_i q;split at e
   ·rename_i x hx;split at e
    ·rename_i y hy;rw[gh]at e;by_cases z:b=a
     ·subst z;simp at e;subst e;exact⟨bc _,by lia,vd q,x,hx,hy⟩
     ·rw[show(b==a)=false from beq_eq_false_iff_ne.mpr z]at e;exact up e
    ·exact up e
   ·exact up e
noncomputable def KK (P:bA):bz:=qB (eH.tZ P) 1099 0
theorem Wf {P:bA}{h:bf}(x:∀a o,(eH.pA P).get? a=some o->h.get? a=some o):(KK P).In h:=λa o e=>by
 obtain⟨_,h2,_,y,h4,h5⟩:=BV e;have h2:a<0+1099:=h2;exact x a o ((abs_get (xT h2 (rM _)) h4).trans h5)
theorem Vx {P:bA}{a:Nat}{o:cI}(e:(KK P).lookup a=some o):a<N0/\a≠TT:=by
 obtain⟨_,h2,h3,_⟩:=BV e;exact⟨fK h2 (by decide),h3⟩
abbrev Ou:=fh×FuncBody×List (ak×ax)×ax×ax×List ak×Bool×az×Bool
noncomputable def F5 (K:bz)(a:ax):Option Ou:=match K.lookup a with
 |some ⟨_,_,.func fd,_⟩=>some (fd.scope,fd.body,fd.closure,fd.globals,fd.builtins,fd.params.args.map (·.arg),qr fd.params,fd.defaults,codeIn K fd.code fd.qualname)
 |_=>none
noncomputable def GD (fi:FI):Option Ou:=some (fi.scope,.stmts fi.body,[],mainGlobals,builtinsNs,fi.ps,true,fi.dV,true)
noncomputable def d1 (v:V)(y:az):Bool:=match v with
 |.int i=>Gg i y
 |.none=>y==.none
 |_=>false
noncomputable def EF:List V->List az->Bool
 |[],ys=>ys.isEmpty
 |v::l,ys=>(match ys with
  |[]=>false
  |y::r=>d1 v y&&EF l r)
noncomputable def Gd (K:bz)(fi:FI):Bool:=fG fi.df.length fi.ps.length&&(match fi.dV with
 |.none=>fi.df.isEmpty
 |.ref T=>(match K.lookup T with
  |some ⟨_,_,.seq ys _,_⟩=>EF fi.df ys.toList
  |_=>false)
 |_=>false)
theorem V5 {h:bf}{ρ:Nat->ax}{n:Nat}{v:V}{y:az}(e:d1 v y=true):VR h ρ n v y:=by
 induction v using V.casesOn with
 |int i=>exact JV e
 |none=>exact eq_of_beq (show(y==fQ)=true from e)
 |_=>exact fT e
theorem J0 {h:bf}{ρ:Nat->ax}{n:Nat}:∀{l:List V} {ys:List az},EF l ys=true->aW h ρ n l ys
 |[],ys,e=>xY.mp e
 |_::_,[],e=>fT e
 |v::l,y::r,e=>ey y r rfl (V5 (jJ e).1) (J0 (jJ e).2)
set_option tactic.hygienic true in
theorem TF {K:bz}{a:ax}{fi:FI}(e:F5 K a=GD fi)(d:Gd K fi=true):L9 K a fi:=by
 unfold F5 at e;split at e
 ·rename_i oc od fd iU hl;simp only[GD,PL,lX]at e;obtain⟨e1,e2,e3,e4,e5,e6,e7,e8,e9⟩:=e;unfold Gd at d;rw[cc]at d;refine⟨oc,od,fd,iU,hl,e1,e2,e9,e3,e4,e5,e7,e6,?_⟩;have d2:=d.2;rw[e8];split at d2
  ·rename_i q;refine⟨[],dA d.1,.inl ⟨q,rfl⟩,λh ρ n=>?_⟩;rw[xY.mp d2];rfl
  ·rename_i T q;split at d2
   ·rename_i oc ys k sl hT;exact⟨ys.toList,dA d.1,.inr ⟨T,_,k,q,hT,by simp⟩,λh ρ n=>J0 d2⟩
   ·cases d2
  ·cases d2
 ·cases e
noncomputable def Tr.flat {α:Type}:Tr (Option α)->List (Nat×α)
 |.nil=>[]
 |.node k v l r=>(match v with|some x=>[(k,x)]|none=>[])++(l.flat++r.flat)
set_option tactic.hygienic true in
theorem Tr.Cy {α:Type}{x:α}{i:Nat}:∀{t:Tr (Option α)},t.get i=some (some x)->(i,x)∈t.flat
 |.nil,h=>by cases h
 |.node k w l r,h=>by
  dsimp only[Tr.get]at h;unfold Tr.flat;split at h
  ·rename_i q;cases h;have af:=eS q;subst af;exact .head _
  ·split at h
   ·exact pU _ (xO _ (Tr.Cy h))
   ·exact pU _ (pU _ (Tr.Cy h))
theorem KW {α β:Type}{f g:α->β}:∀{l:List α},l.map f=l.map g->∀x∈l,f x=g x
 |_::_,e,_,.head _=>(BF e).1
 |_::_,e,_,.tail _ m=>KW (BF e).2 _ m
noncomputable def zH:List (Nat×FI):=K1.flat++[(140,nj),(119,mu),(1086,lT)]
theorem Ug (p:bA):zH.map (λq=>(F5 (KK p) q.1,Gd (KK p) q.2,KG q.2))=zH.map (λq=>(GD q.2,true,true)):=by kernel_rfl
theorem Dk (p:bA):(CK.all (λr=>r.all λq=>wU (KK p) q.1 q.2),CI.allB (λC l=>l.all λq=>zR (KK p) C q.1 q.2),yX.allB (λC i=>Ej (KK p) C i),fnIn (KK p) 1086)=(true,true,true,true):=by kernel_rfl
theorem Vf (p:bA):((KK p).lookup CF,findIn (KK p) (.ref CF) "__init__",typeIn (KK p) (.ref 140),nsIn (KK p) mainGlobals "MarkupError",nsIn (KK p) mainGlobals "Exception",readsIn (KK p) 122 (.type "type"),findCls (KK p) (.ref 122) (.type "type") "__init__",
 specialIn (KK p) (.ref 122) "__getattribute__",findIn (KK p) (.ref CF) "__setattr__",findIn (KK p) (.ref CF) "message",findIn (KK p) (.ref CF) "place") =
 (some (excClassObj (eH.kY "SyntaxFault") (eH.kY "SyntaxFault") CF 142 [.ref 122] hM true [] [] false none none (some (.ref 126)) none (some (.str (eH.kY "SyntaxFault") 338)) (some (.str (eH.kY "SyntaxFault") 346)) (some (.bool true)) "Exception.__new__"),some (some (.ref 140)),some (.type "function"),some (some (.ref 122)),some none,true,some (.val (.ref 119)),
  some (some (.builtin "type.__getattribute__")),some (some (.builtin "object.__setattr__")),some none,some none):=by kernel_rfl
theorem C0 (p:bA):(findIn (KK p) (.type "type") "__getattribute__",PySem.W.subIn (KK p) (.type "type") (.type "type"),nsIn (KK p) cStatics "thirdparty.any",findIn (KK p) (.ref CF) "__getattribute__",findIn (KK p) (.ref CF) "__getattr__") =
 (some (some (.builtin "type.__getattribute__")),some true,some none,some (some (.builtin "BaseException.__getattribute__")),some none):=by kernel_rfl
theorem zm (p:bA){a:Nat}{fi:FI}(m:(a,fi)∈zH):my (KK p) a fi:=by
 have h:=KW (Ug p) _ m;simp only[lX]at h;exact Tb h.2.2 (TF h.1 h.2.1)
set_option tactic.hygienic true in
theorem MD (p:bA):∀a fi,aR.fn a=some fi->my (KK p) a fi:=λa fi h=>by
 have h:El a=some fi:=h;unfold El at h;split at h
 ·rename_i o ho;subst h;exact zm p (xO _ (Tr.Cy ho))
 ·cases h
theorem EA {x:Nat×FI}(h:x∈[(140,nj),(119,mu),(1086,lT)]):x∈zH:=pU _ h
theorem X0 (p:bA):qS aR (KK p):=by
 have h:=Dk p;simp only[lX]at h;exact Tc h.1 h.2.1
theorem VK (p:bA):∀C a,aR.gf C=some a->zA (KK p) C a:=by
 have h:=Dk p;simp only[lX]at h;exact TV h.2.2.1
theorem Ta (p:bA):FaultAll (KK p):=by
 have h:=Vf p;have g:=C0 p;simp only[lX]at h g;obtain⟨h1,h2,h3,h4,h5,h6,h7,h8,h9,lL,pI⟩:=h;obtain⟨g1,g2,g3,g4,g5⟩:=g;exact{cls:=⟨_,_,_,_,_,_,_,_,_,_,_,_,_,_,h1⟩,gf:=h2,OC:=h3,sO:=zm p (EA (.head _)),qN:=zm p (EA (.tail _ (.head _))),me:=h4,ex:=h5,rd:=h6,fc:=h7,ga:=h8,sa:=h9,n1:=lL,n2:=pI,tg:=g1,ts:=g2,fe:=by kernel_rfl,st:=g3,bE:=by kernel_rfl}
theorem UQ (p:bA):(match (KK p).lookup 1086 with|some ⟨_,_,.func fd,_⟩=>some (fd.code,fd.qualname,fd.scope)|_=>none)=some (.ref 1085,sl "_law_declared",lT.scope):=by kernel_rfl
set_option tactic.hygienic true in
theorem Wc (p:bA):EB (KK p) where
 fn:=zm p (EA (.tail _ (.tail _ (.head _))))
 cd:=λoc od fd iU q=>by
  have h:=UQ p;rw[q]at h;simp only[PL,lX]at h;exact h
 hd:=by kernel_rfl
set_option tactic.hygienic true in
theorem Mq {au:cB}(ht:au.given.tree=none)(w:bw):OkT au w (KK w.params) aR cG where
 po:=X0 _
 fo:=⟨MD _,VK _,Rw (Wc _),rfl,Ti⟩
 go:=λa g h=>by
  unfold cG at h;split at h
  ·rename_i q;have af:=eS q;subst af;have h:=Dk w.params;simp only[lX]at h;exact h.2.2.2
  ·cases h
 tr:=ht
 fl:=Ta _
 fc:=rfl
 ga:=by
  have g:=C0 w.params;simp only[lX]at g;exact g.2.2.2.1
 gt:=by
  have g:=C0 w.params;simp only[lX]at g;exact g.2.2.2.2
end Zq
end
section
namespace Zq
open PySem PySem.W PySem.W.X PySem.Calls PyProof.Rows
theorem yU (P:bA):(nsIn (KK P) mainGlobals "law",nsIn (KK P) mainGlobals "__builtins__",codeHdIn (KK P) 1085 1081,fnIn (KK P) 840,fnIn (KK P) 1093)=(some (some (.ref 1098)),some (some (.ref 4)),true,true,true):=by kernel_rfl
theorem Lc (P:bA):(eH.tZ P).get 1081=some (tabObj #[]):=by kernel_rfl
theorem Wd (P:bA):(eH.pA P).objs.size=1099:=absHeap_size _ _ _
theorem WY {au:cB}(ht:au.given.tree=none)(w:bw):OkT au w (KK w.params) aR (bJ lK):=by
 have O:=Mq ht w;have k:=yU w.params;simp only[lX]at k;refine O.ext λa g h=>?_;unfold bJ at h;split at h
 ·rename_i q;have af:=eS q;subst af;cases h;exact .inr ⟨k.2.2.2.1,_,_,O,rfl⟩
 ·split at h
  ·cases h
  ·exact .inl h
theorem XM {au:cB}(ht:au.given.tree=none)(w:bw):OkT au w (KK w.params) aR (bJ hO):=by
 have O:=Mq ht w;have k:=yU w.params;simp only[lX]at k;refine O.ext λa g h=>?_;unfold bJ at h;split at h
 ·rename_i q;have af:=eS q;subst af;cases h;exact .inr ⟨k.2.2.2.1,_,_,O,rfl⟩
 ·split at h
  ·rename_i q;have af:=eS q;subst af;cases h;exact .inr ⟨k.2.2.2.2,_,_,WY ht w,rfl⟩
  ·exact .inl h
theorem SI {l:List Int}(hl:l.length<=1000):∃n aj,sk (run aR (bJ hO) n) (dC pg) 40 [.gG l] []=some (.ok (.bool true),aj):=by
 obtain⟨cg,aj,n,h⟩:=UR (d:=0) (σ:=[]) hl;refine⟨n,aj,?_⟩;have h:=h n (bc _);have e:sk (run aR (bJ hO) n) (dC pg) 40 [.gG l] []=bd (sF (run aR (bJ hO) n) (.ss (Fi l (0+40) []) (dC pg).body)) (λr=>(match r.1 with
  |.next=>rt .none
  |.ret v=>rt v
  |.brk=>no)) []:=by kernel_rfl
 rw[e];unfold bd sF bd;rw[h];rfl
section
variable {au:cB}{w:bw}{s:aN}{mg mb:ak->Option az}
theorem Te {q:cB}{lo:List ak}{W6:ExcName->Option az}(hq:importsNone q=true)(T:Top q lo W6 mg mb s.heap)(x:∀a o,(eH.pA w.params).get? a=some o->s.heap.get? a=some o):jc (KK w.params) s.heap:=by
 have k:=yU w.params;simp only[lX]at k;have X:=Wf x;have S:=T.seer hq;obtain⟨bm,ob,b1,b2,b3,b4,b5,b6⟩:=T.bmain;have e1:=mg_of X T.g k.2.1;rw[b1]at e1;cases e1;have tt:=x 1081 _ ((abs_get (by decide) (Lc w.params)).trans rfl);exact⟨X,⟨mg,mb,T.g,T.b,T.builtins⟩,T.nolimit,T.nodigits,⟨#[],tt,.inl rfl⟩,λa o e=>Vx e,4,by decide,by decide,by decide,
  ⟨S.statics,S.mods,S.imp,mg,ob,T.g,b1,b3,b4,b5,b6⟩⟩
theorem Rk (ht:au.given.tree=none){l:List Int}{uP:Array az}{R:nq->aN->Prop}(ba:jc (KK w.params) s.heap)(hs:s.heap.objs.size=1100)(hL:s.heap.get? 1099=some {cls:=.type "list",data:=.seq uP})(hI:IntsAre uP.toList l)(hl:l.length<=1000)
 (h:∀s',jc (KK w.params) s'.heap->(∀b o,s.heap.get? b=some o->b≠TT->s'.heap.get? b=some o)->s'.gens=s.gens->s'.os=s.os->R (.ok (.ret (.bool true))) s'):codeAny (model au w) callerA (.call (.ref 1098) ⟨[.ref 1099],[]⟩) R s:=by
 obtain⟨n,aj,e⟩:=SI hl;have O:=XM ht w;have W0:W w.params (KK w.params) [] (λZ=>0) [] s.heap:=⟨⟨λi o e=>(by cases i<;>cases e),λi j h=>absurd h (qb _),λi h=>absurd h (qb _)⟩,ba,⟨λe h=>(nomatch h),.nil⟩⟩;have hv:aW s.heap (λZ=>0) 0 [.gG l] [.ref 1099]:=by
  refine⟨_,_,rfl,?_,by rfl⟩;exact⟨rfl,uP,0,hL,hI⟩
 have fo:my (KK w.params) 1098 (dC pg):=MD _ 1098 _ (by kernel_rfl);refine Ck (σ:=[]) (L:=0) (K:=KK w.params) fo (λcx Z Z=>(BS O n).ss _ cx) ⟨rfl,by decide,by decide,rfl⟩ (by rw[hs];decide) W0 hv _ aj e R λaJ s' W1 st g1 g2=>⟨λv q x hx=>?_,λq=>by cases q⟩;cases q;have hx:x=.bool true:=hx;subst hx;exact h s' W1.ba (λb o e1 e2=>st.keep b o e1 (λi hi=>absurd hi (qb _)) (λh=>nomatch h) (λh=>nomatch h) e2) g1 g2
end
theorem Rn:WalkX eH.qE eH.jq (λZ Z=>True) yz (λw=>eH.pA w.params) eH.wH.toRowW eH.sj.1 eH.sj.2 λf vs=>PySem.call f vs:=by
 intro w WK eL mg mb G hY a o pm cd doc dV kV ho Z2 ri hD Nj hg av jM as L WW WX Zd Zy uD;have hY:WK.heap=eH.pA w.params:=hY;have T:=G.T;clear Z2 ri hD ho
 wrow_args WW WX Zd Zy uD
 rename_i ns _ _ _ _ _ _ _ la uP _ hL _ _ _ hI _ fY _;obtain⟨As,dv⟩:=script_at L;rw[hY,Wd]at As dv;subst As;have WO:=script_obj L hL;have x:∀a o,(eH.pA w.params).get? a=some o->eL.heap.get? a=some o:=λa o e=>L.keeps a o (hY▸e);have ba:=Te (w:=w) (show importsNone eH.qE=true by kernel_rfl) T x;have k:=yU w.params;simp only[lX]at k;have e1:=mg_of ba.k T.g k.1;rw[show eH.sj.1.name=("law":ak) by kernel_rfl,e1]at Nj;cases Nj;refine enter_call (pos:=[.ref 1099]) (kw:=[]) ?_;refine Rk (au:=eH.wH.prog) (l:=ns) (uP:=uP.toArray) rfl ba dv WO hI (by lia) λs' b' k' g1 g2=>?_;obtain⟨vs,t1,_⟩:=b'.tab;obtain⟨vs0,t0,t0'⟩:=ba.tab;refine⟨.inl ⟨.bool true,.bool true,[],rfl,λZ=>rfl,.bool true,?_,λZ=>⟨.nil,λZ h=>nomatch h⟩⟩,⟨λb o e=>?_,λb o e=>?_⟩,g2,.of_eq (g1.trans hg)⟩
 ·wrow_post
 ·by_cases z:b=TT
  ·subst z;have tt:eL.heap.get? TT=some (tabObj #[]):=x 1081 _ ((abs_get (by decide) (Lc w.params)).trans rfl);rw[tt]at e;cases e;exact .inr (.inl ⟨((codeHd_of_K ba.k k.2.2.1).tab tt).isCodeTable,rfl,#[],vs,rfl,by rw[Array.empty_append];exact t1⟩)
  ·exact .inl (k' b o e z)
 ·by_cases z:b=TT
  ·subst z;exact⟨_,t1⟩
  ·exact⟨o,k' b o e z⟩
end Zq
theorem PySem.Challenge.cw_nu0080_01_holds : PySem.Challenge.rw_nu0080_01.Holds :=
 eH.head Zq.Rn
end
