import PyProof.Rows.All
import Wide.All
import OpenK.AllK
import Wide.FinOn
import KE.KxPercent
import PyProof.ExcBaseAll.Exception
import Lean
import PySem.Challenge.RW_xm0855_01
open And renaming imp_right->jF,intro->Hd
open Array renaming toList->nN,getElem?_eq_some_iff->oA,length_toList->vJ,eraseIdxIfInBounds->DA
open Bool renaming and_eq_true_iff->ag,false_ne_true->h_,false_eq_true->jV,or_eq_true_iff->nE,and_false->Dp,true_and->E1
open Eq renaming symm->ao
open Exists renaming imp->By
open ForInStep renaming yield->cw
open Int renaming ofNat_le->aw,le_of_eq->aG,toNat_natCast->aM,ofNat_lt->aU,natCast_add->bh,natAbs_natCast->cT,ofNat_sub->cW,le_antisymm->da,natCast_nonneg->d0,mul_le_mul_of_nonneg_left->d9,not_lt->fj,le_trans->fO,toNat_of_nonneg->gT,ofNat->gX,lt_of_le_of_lt->ik,self_le_toNat->iN,eq_ofNat_of_zero_le->j4,not_le->mh,fdiv_eq_ediv_of_nonneg->pe,lt_or_gt_of_ne->pf,toNat_lt->zy,fmod_eq_emod_of_nonneg->DB,le_of_lt->II
open Int.ofNat renaming inj->fF
open List renaming length_append->ah,length_map->aq,append_assoc->aC,mem_singleton->aR,length_cons->aV,length_singleton->aW,map_append->aY,append_nil->bb,getElem?_eq_getElem->bx,mem_cons->bE,mem_append->cC,length->cF,all_eq_true->cJ,mem_map->cK,getElem?_map->cP,map_inj_left->cQ,map_cons->du,lookup_cons->dB,length_take->dP,map_congr_left->dR,take_of_length_le->d6,length_range->d8,map_map->eu,length_drop->eD,flatten_cons->fC,pairwise_singleton->fE,getElem_mem->fP,drop_zero->fS,nodup_cons->gg,range->gw,take_add_one->iK,nodup_append->iL,getElem?_append_right->iW,getElem?_eq_some_iff->jk,flatten_append->jt,map_take->jC,nil_append->jE,eraseIdx_cons_succ->jX,size_toArray->kO,replicate->kP,take_zero->kQ,mem_of_mem_take->mB,pairwise_append->mD,length_pos_iff->nR,nodup_nil->pa,flatten_nil->rB,cons->rC,range_succ_eq_map->tp,map_nil->tu,foldl_cons->tQ,getElem?_eq_none->uf,take_append_drop->ui,map_drop->xj,mem_cons_self->yb,any_eq_false->y9,not_mem_nil->AY,forIn_cons->Bt,length_nil->Bx,getD_eq_getElem?_getD->Dn,sum_cons->E6,length_eq_zero_iff->Fn,map_set->Hh,getElem?_toArray->IJ,mem_of_mem_drop->JL,mem_append_left->JN,mem_cons_of_mem->JO,mem_of_getElem?->JP,getLast?_append->JQ,getElem?_range->J4
open List.Pairwise renaming nil->mE
open Nat renaming le_of_eq->aa,blt->aB,le_of_ble_eq_true->aE,le_trans->aF,lt_of_le_of_lt->aK,mul_le_mul_left->aP,le_antisymm->aS,lt_of_lt_of_le->a_,sub_add_cancel->bM,le_of_not_lt->bW,lt_trans->b_,add_le_add_left->cV,le_of_lt_succ->dh,ble->dO,pow_le_pow_right->d3,ble_eq->d4,lt_succ_iff_lt_or_eq->eg,min_eq_left->fc,mod_lt->fT,le_of_lt->gk,lt_succ_of_le->gp,lt_succ_self->gZ,min_le_right->g_,zero_le->ia,succ_pos->ij,beq->ip,lt_or_gt_of_ne->iw,lt_irrefl->iH,le_refl->iY,le_add_of_sub_le->iZ,sub_le->i5,le_add_right->ji,add_sub_cancel_left->j6,pow_succ->kW,div_lt_iff_lt_mul->lW,min_eq_right->mf,le_succ->mJ,div_le_self->nQ,sub_self->oC,add_assoc->q8,succ_le_succ->rE,ne_of_beq_eq_false->tL,not_le->tM,not_lt->tP,mul_comm->tR,min_le_left->uc,not_lt_zero->uh,eq_of_beq_eq_true->u0,ne_of_lt->zz,and_two_pow_sub_one_eq_mod->A6,mod_eq_of_lt->A7,gt_of_not_le->A8,lt_of_not_le->A9,log2_lt->Bu,two_pow_add_eq_or_of_lt->Dr,add_le_add->Dx,add_lt_add_of_lt_of_le->DC,le_total->IC,ne_of_gt->ID,zero_add->IK,sub_eq_zero_of_le->JK,add_lt_add_right->J3
open Nat.Internal.Linear.ExprCnstr renaming eq_false_of_isUnsat->B9
open Ne renaming symm->aJ
open Option renaming isSome_iff_exists->js,map_eq_some_iff->rn,elim->Hb
open Option.some renaming inj->bV
open PyProof.Rows renaming IsTup->q0,inR->rG
open PySem renaming Params->bg,OsState->bL,wpAny->bP,World->bY,builtinLookup_eq_fast->bZ,Expr->di,DictEntry->dz,NameKind->dA,typeLookup_type->dD,Program->eE,foldedSetIterable->gG,sizeLine->iq,bm_if_false->iJ,Stmt->jD,ExceptHandler->ki,getMethod_builtin->mq,Env->mA,builtinsNs->nG,typeLookup->nH,entryFor_of_fast->nJ,entryFor_of_tree->nK,wpAny_ite->nM,theTreesLotGoes->pb,isSubtype_type->q5,bm_if_true->q7,attributeBase->tN,Comprehension->tO,leftWithCleanup->w_,unsupported->yV,behindInMarks->AX,strLen_append->AZ,Operator->B_,slot_list_getitem->Ca,Result->Dy,slot_list_setitem->E2,Str->E5,codeAny_of_tree->Fh,codeAny_builtin->Fj,ofString_length->Hf
open PySem.Around renaming under_plainId->ug
open PySem.AutoSeq1 renaming wpAny_loadPart'->ud
open PySem.Builtin renaming bitAnd->gE,bitOr->jj,bitNot->nP
open PySem.Builtin.Bytes renaming decodersThatHold->fZ,sameRef->jA,buffer?->jB,slotIsOwn->nL,write->q6,checkResize->ya,joined->A5
open PySem.Builtin.Int renaming intBits->gf,intTooBig->Bv
open PySem.Builtin.Range renaming rangeSize->nO
open PySem.Calls renaming Name_function_global->oB,loadGlobal_global->E4
open PySem.DictEntry renaming refKey->IG
open PySem.EntryCells renaming newEntry->Dz
open PySem.Env renaming kindOf->pd
open PySem.F renaming excBase_Exception->o_,bm_called->rA,plainAttrs_list->Dq,slot_list_pop->E3,bm_plain->Fi
open PySem.Heap renaming get?_push_of_some->bB,get?_push_size->dw,SameBut->eo,lt_size->eQ,get?_update_self->fg,get?_update_other->hZ,ExtBut->vF,get?_some_iff->x_
open PySem.Heap.IsSliceOf renaming new->rq
open PySem.Heap.SameBut renaming update->iI
open PySem.IsRange renaming new->Fm
open PySem.NameKind renaming free->eI
open PySem.Obj renaming mapBytearray->gY,putNameByArray->ir,putName_eq->kV,mapSeq->mj,mapFields->qZ,data_mapFields->yX,isFreed_of_fields->JM
open PySem.PyData renaming keyHash->Bw
open PySem.Sem renaming wp_mono->vI
open PySem.Str renaming ofString->eP,empty->Hg
open PySem.Value renaming ref->iz,none->ll
open PySem.Value.type renaming inj->y_
open PySem.W renaming Frag->fq,emptyDict->iu,fresh_of_stays->yW,boot_drawn->A_,boot_toks->DD,keepIn->IF
open PySem.W.FB renaming slot_bytes_getitem->vD
open PySem.W.Fast renaming te14364793385576792824->iO,te10110043849684766642->rH
open PySem.W.WShape renaming hasItems->rI
open UInt8 renaming ofNat->cM
open PySem PySem.W PyProof.Rows
set_option Elab.async false
set_option maxRecDepth 100000
set_option maxHeartbeats 4000000
set_option linter.all false
set_option genInjectivity false
set_option genSizeOf false
set_option autoImplicit true
noncomputable section
abbrev Mine.TT(A B:Prop):Prop:=(A->B)->A->B
set_option compiler.extract_closed false
open Lean in
local macro_rules (kind:=Lean.Parser.Tactic.tacticErw___)
|s=>do
 let h<-`(?_)
 let p<-`((?_:Mine.TT _ _))
 let e<-`(tactic|exact λ_ x=>x)
 return mkNullNode (s[2][1].getSepArgs.map λr=>
  let t:=r[1]
  let b:=t.isOfKind ``Parser.Term.app
  let f:=cond b t[0] t
  let a:=cond b t[1].getArgs #[]
  let q x:=mkNode ``Parser.Tactic.refine' #[h,x]
  let g f a:=mkNode ``Parser.Term.app #[f,mkNullNode (a.push h)]
  if !r[0].isNone then q t else
  if t.isOfKind ``Parser.Term.paren then mkNode ``Parser.Tactic.intro #[h,mkNullNode (let u:=t[1];if u.isOfKind ``Parser.Term.app then #[u[0]]++u[1].getArgs else #[u])] else
  if f.getId.toString.front=='Z' then mkNullNode #[q (g p #[t]),e] else q (g f a))
namespace Mine
universe u1 u2 u3 u4 u5 u6
section
variable{A B C D E F G:Prop}
theorem aD(e:A/\B)(f:A->B->G):G:=f e.1 e.2
theorem cA(e:A/\B/\C)(f:A->B->C->G):G:=f e.1 e.2.1 e.2.2
theorem dY(e:A/\B/\C/\D)(f:A->B->C->D->G):G:=f e.1 e.2.1 e.2.2.1 e.2.2.2
theorem iE(e:A/\B/\C/\D/\E)(f:A->B->C->D->E->G):G:=f e.1 e.2.1 e.2.2.1 e.2.2.2.1 e.2.2.2.2
theorem GA(e:A/\B/\C/\D/\E/\F)(f:A->B->C->D->E->F->G):G:=f e.1 e.2.1 e.2.2.1 e.2.2.2.1 e.2.2.2.2.1 e.2.2.2.2.2
theorem gr(f:A->B->G)(e:A/\B):G:=aD e f
end
section
variable{NA:Sort u1}{A B C D E F H I:NA->Prop}{G:Prop}
theorem bf(e:∃x,A x)(f:∀x,A x->G):G:=e.elim λx h=>f x h
theorem ay(e:∃x,A x/\B x)(f:∀x,A x->B x->G):G:=e.elim λx h=>f x h.1 h.2
theorem cY(e:∃x,A x/\B x/\C x)(f:∀x,A x->B x->C x->G):G:=e.elim λx h=>f x h.1 h.2.1 h.2.2
theorem fh(e:∃x,A x/\B x/\C x/\D x)(f:∀x,A x->B x->C x->D x->G):G:=e.elim λx h=>f x h.1 h.2.1 h.2.2.1 h.2.2.2
theorem Ud(e:∃x,A x/\B x/\C x/\D x/\E x)(f:∀x,A x->B x->C x->D x->E x->G):G:=e.elim λx h=>f x h.1 h.2.1 h.2.2.1 h.2.2.2.1 h.2.2.2.2
theorem NO(e:∃x,A x/\B x/\C x/\D x/\E x/\F x)(f:∀x,A x->B x->C x->D x->E x->F x->G):G:=e.elim λx h=>f x h.1 h.2.1 h.2.2.1 h.2.2.2.1 h.2.2.2.2.1 h.2.2.2.2.2
theorem K6(e:∃x,A x/\B x/\C x/\D x/\E x/\F x/\H x/\I x)(f:∀x,A x->B x->C x->D x->E x->F x->H x->I x->G):G:=e.elim λx h=>f x h.1 h.2.1 h.2.2.1 h.2.2.2.1 h.2.2.2.2.1 h.2.2.2.2.2.1 h.2.2.2.2.2.2.1 h.2.2.2.2.2.2.2
theorem bI(f:∀x,A x->B x->G)(e:∃x,A x/\B x):G:=ay e f
theorem Cc(f:∀x,A x->B x->C x->G)(e:∃x,A x/\B x/\C x):G:=cY e f
end
section
variable{NA:Sort u1}{Pe:Sort u2}{A B C D E F H I J K L M N O P Q R:NA->Pe->Prop}{G:Prop}
theorem gR(e:∃x y,A x y)(f:∀x y,A x y->G):G:=e.elim λx e=>e.elim λy h=>f x y h
theorem df(e:∃x y,A x y/\B x y)(f:∀x y,A x y->B x y->G):G:=e.elim λx e=>e.elim λy h=>f x y h.1 h.2
theorem dg(e:∃x y,A x y/\B x y/\C x y)(f:∀x y,A x y->B x y->C x y->G):G:=e.elim λx e=>e.elim λy h=>f x y h.1 h.2.1 h.2.2
theorem f9(e:∃x y,A x y/\B x y/\C x y/\D x y)(f:∀x y,A x y->B x y->C x y->D x y->G):G:=e.elim λx e=>e.elim λy h=>f x y h.1 h.2.1 h.2.2.1 h.2.2.2
theorem iB(e:∃x y,A x y/\B x y/\C x y/\D x y/\E x y)(f:∀x y,A x y->B x y->C x y->D x y->E x y->G):G:=e.elim λx e=>e.elim λy h=>f x y h.1 h.2.1 h.2.2.1 h.2.2.2.1 h.2.2.2.2
theorem Cz(e:∃x y,A x y/\B x y/\C x y/\D x y/\E x y/\F x y)(f:∀x y,A x y->B x y->C x y->D x y->E x y->F x y->G):G:=e.elim λx e=>e.elim λy h=>f x y h.1 h.2.1 h.2.2.1 h.2.2.2.1 h.2.2.2.2.1 h.2.2.2.2.2
theorem C8(e:∃x y,A x y/\B x y/\C x y/\D x y/\E x y/\F x y/\H x y)(f:∀x y,A x y->B x y->C x y->D x y->E x y->F x y->H x y->G):G:=e.elim λx e=>e.elim λy h=>f x y h.1 h.2.1 h.2.2.1 h.2.2.2.1 h.2.2.2.2.1 h.2.2.2.2.2.1 h.2.2.2.2.2.2
theorem Tf(e:∃x y,A x y/\B x y/\C x y/\D x y/\E x y/\F x y/\H x y/\I x y/\J x y)(f:∀x y,A x y->B x y->C x y->D x y->E x y->F x y->H x y->I x y->J x y->G):G:=e.elim λx e=>e.elim λy h=>f x y h.1 h.2.1 h.2.2.1 h.2.2.2.1 h.2.2.2.2.1 h.2.2.2.2.2.1 h.2.2.2.2.2.2.1 h.2.2.2.2.2.2.2.1 h.2.2.2.2.2.2.2.2
theorem HQ(e:∃x y,A x y/\B x y/\C x y/\D x y/\E x y/\F x y/\H x y/\I x y/\J x y/\K x y/\L x y/\M x y/\N x y/\O x y/\P x y/\Q x y/\R x y)(f:∀x y,A x y->B x y->C x y->D x y->E x y->F x y->H x y->I x y->J x y->K x y->L x y->M x y->N x y->O x y->P x y->Q x y->R x y->G):G:=e.elim λx e=>e.elim λy h=>f x y h.1 h.2.1 h.2.2.1 h.2.2.2.1 h.2.2.2.2.1 h.2.2.2.2.2.1 h.2.2.2.2.2.2.1 h.2.2.2.2.2.2.2.1 h.2.2.2.2.2.2.2.2.1 h.2.2.2.2.2.2.2.2.2.1 h.2.2.2.2.2.2.2.2.2.2.1 h.2.2.2.2.2.2.2.2.2.2.2.1 h.2.2.2.2.2.2.2.2.2.2.2.2.1 h.2.2.2.2.2.2.2.2.2.2.2.2.2.1 h.2.2.2.2.2.2.2.2.2.2.2.2.2.2.1 h.2.2.2.2.2.2.2.2.2.2.2.2.2.2.2.1 h.2.2.2.2.2.2.2.2.2.2.2.2.2.2.2.2
theorem KN(f:∀x y,A x y->B x y->G)(e:∃x y,A x y/\B x y):G:=df e f
end
section
variable{NA:Sort u1}{Pe:Sort u2}{Sj:Sort u3}{A B C D E F H I J K L:NA->Pe->Sj->Prop}{G:Prop}
theorem Ui(e:∃x y z,A x y z)(f:∀x y z,A x y z->G):G:=e.elim λx e=>e.elim λy e=>e.elim λz h=>f x y z h
theorem xH(e:∃x y z,A x y z/\B x y z)(f:∀x y z,A x y z->B x y z->G):G:=e.elim λx e=>e.elim λy e=>e.elim λz h=>f x y z h.1 h.2
theorem iD(e:∃x y z,A x y z/\B x y z/\C x y z)(f:∀x y z,A x y z->B x y z->C x y z->G):G:=e.elim λx e=>e.elim λy e=>e.elim λz h=>f x y z h.1 h.2.1 h.2.2
theorem nh(e:∃x y z,A x y z/\B x y z/\C x y z/\D x y z)(f:∀x y z,A x y z->B x y z->C x y z->D x y z->G):G:=e.elim λx e=>e.elim λy e=>e.elim λz h=>f x y z h.1 h.2.1 h.2.2.1 h.2.2.2
theorem zD(e:∃x y z,A x y z/\B x y z/\C x y z/\D x y z/\E x y z)(f:∀x y z,A x y z->B x y z->C x y z->D x y z->E x y z->G):G:=e.elim λx e=>e.elim λy e=>e.elim λz h=>f x y z h.1 h.2.1 h.2.2.1 h.2.2.2.1 h.2.2.2.2
theorem td(e:∃x y z,A x y z/\B x y z/\C x y z/\D x y z/\E x y z/\F x y z)(f:∀x y z,A x y z->B x y z->C x y z->D x y z->E x y z->F x y z->G):G:=e.elim λx e=>e.elim λy e=>e.elim λz h=>f x y z h.1 h.2.1 h.2.2.1 h.2.2.2.1 h.2.2.2.2.1 h.2.2.2.2.2
theorem vk(e:∃x y z,A x y z/\B x y z/\C x y z/\D x y z/\E x y z/\F x y z/\H x y z)(f:∀x y z,A x y z->B x y z->C x y z->D x y z->E x y z->F x y z->H x y z->G):G:=e.elim λx e=>e.elim λy e=>e.elim λz h=>f x y z h.1 h.2.1 h.2.2.1 h.2.2.2.1 h.2.2.2.2.1 h.2.2.2.2.2.1 h.2.2.2.2.2.2
theorem Mi(e:∃x y z,A x y z/\B x y z/\C x y z/\D x y z/\E x y z/\F x y z/\H x y z/\I x y z/\J x y z)(f:∀x y z,A x y z->B x y z->C x y z->D x y z->E x y z->F x y z->H x y z->I x y z->J x y z->G):G:=e.elim λx e=>e.elim λy e=>e.elim λz h=>f x y z h.1 h.2.1 h.2.2.1 h.2.2.2.1 h.2.2.2.2.1 h.2.2.2.2.2.1 h.2.2.2.2.2.2.1 h.2.2.2.2.2.2.2.1 h.2.2.2.2.2.2.2.2
theorem It(e:∃x y z,A x y z/\B x y z/\C x y z/\D x y z/\E x y z/\F x y z/\H x y z/\I x y z/\J x y z/\K x y z/\L x y z)(f:∀x y z,A x y z->B x y z->C x y z->D x y z->E x y z->F x y z->H x y z->I x y z->J x y z->K x y z->L x y z->G):G:=e.elim λx e=>e.elim λy e=>e.elim λz h=>f x y z h.1 h.2.1 h.2.2.1 h.2.2.2.1 h.2.2.2.2.1 h.2.2.2.2.2.1 h.2.2.2.2.2.2.1 h.2.2.2.2.2.2.2.1 h.2.2.2.2.2.2.2.2.1 h.2.2.2.2.2.2.2.2.2.1 h.2.2.2.2.2.2.2.2.2.2
end
section
variable{NA:Sort u1}{Pe:Sort u2}{Sj:Sort u3}{Yt:Sort u4}{A B C D E F H I J K L M N:NA->Pe->Sj->Yt->Prop}{G:Prop}
theorem vg(e:∃x y z u,A x y z u)(f:∀x y z u,A x y z u->G):G:=e.elim λx e=>e.elim λy e=>e.elim λz e=>e.elim λu h=>f x y z u h
theorem Rj(e:∃x y z u,A x y z u/\B x y z u)(f:∀x y z u,A x y z u->B x y z u->G):G:=e.elim λx e=>e.elim λy e=>e.elim λz e=>e.elim λu h=>f x y z u h.1 h.2
theorem kJ(e:∃x y z u,A x y z u/\B x y z u/\C x y z u)(f:∀x y z u,A x y z u->B x y z u->C x y z u->G):G:=e.elim λx e=>e.elim λy e=>e.elim λz e=>e.elim λu h=>f x y z u h.1 h.2.1 h.2.2
theorem iR(e:∃x y z u,A x y z u/\B x y z u/\C x y z u/\D x y z u)(f:∀x y z u,A x y z u->B x y z u->C x y z u->D x y z u->G):G:=e.elim λx e=>e.elim λy e=>e.elim λz e=>e.elim λu h=>f x y z u h.1 h.2.1 h.2.2.1 h.2.2.2
theorem Tt(e:∃x y z u,A x y z u/\B x y z u/\C x y z u/\D x y z u/\E x y z u)(f:∀x y z u,A x y z u->B x y z u->C x y z u->D x y z u->E x y z u->G):G:=e.elim λx e=>e.elim λy e=>e.elim λz e=>e.elim λu h=>f x y z u h.1 h.2.1 h.2.2.1 h.2.2.2.1 h.2.2.2.2
theorem MJ(e:∃x y z u,A x y z u/\B x y z u/\C x y z u/\D x y z u/\E x y z u/\F x y z u/\H x y z u)(f:∀x y z u,A x y z u->B x y z u->C x y z u->D x y z u->E x y z u->F x y z u->H x y z u->G):G:=e.elim λx e=>e.elim λy e=>e.elim λz e=>e.elim λu h=>f x y z u h.1 h.2.1 h.2.2.1 h.2.2.2.1 h.2.2.2.2.1 h.2.2.2.2.2.1 h.2.2.2.2.2.2
theorem NU(e:∃x y z u,A x y z u/\B x y z u/\C x y z u/\D x y z u/\E x y z u/\F x y z u/\H x y z u/\I x y z u/\J x y z u)(f:∀x y z u,A x y z u->B x y z u->C x y z u->D x y z u->E x y z u->F x y z u->H x y z u->I x y z u->J x y z u->G):G:=e.elim λx e=>e.elim λy e=>e.elim λz e=>e.elim λu h=>f x y z u h.1 h.2.1 h.2.2.1 h.2.2.2.1 h.2.2.2.2.1 h.2.2.2.2.2.1 h.2.2.2.2.2.2.1 h.2.2.2.2.2.2.2.1 h.2.2.2.2.2.2.2.2
theorem PH(e:∃x y z u,A x y z u/\B x y z u/\C x y z u/\D x y z u/\E x y z u/\F x y z u/\H x y z u/\I x y z u/\J x y z u/\K x y z u/\L x y z u/\M x y z u/\N x y z u)(f:∀x y z u,A x y z u->B x y z u->C x y z u->D x y z u->E x y z u->F x y z u->H x y z u->I x y z u->J x y z u->K x y z u->L x y z u->M x y z u->N x y z u->G):G:=e.elim λx e=>e.elim λy e=>e.elim λz e=>e.elim λu h=>f x y z u h.1 h.2.1 h.2.2.1 h.2.2.2.1 h.2.2.2.2.1 h.2.2.2.2.2.1 h.2.2.2.2.2.2.1 h.2.2.2.2.2.2.2.1 h.2.2.2.2.2.2.2.2.1 h.2.2.2.2.2.2.2.2.2.1 h.2.2.2.2.2.2.2.2.2.2.1 h.2.2.2.2.2.2.2.2.2.2.2.1 h.2.2.2.2.2.2.2.2.2.2.2.2
end
section
variable{NA:Sort u1}{Pe:Sort u2}{Sj:Sort u3}{Yt:Sort u4}{α5:Sort u5}{A B C D E F H I J K L M N O:NA->Pe->Sj->Yt->α5->Prop}{G:Prop}
theorem iS(e:∃x y z u v,A x y z u v/\B x y z u v/\C x y z u v)(f:∀x y z u v,A x y z u v->B x y z u v->C x y z u v->G):G:=e.elim λx e=>e.elim λy e=>e.elim λz e=>e.elim λu e=>e.elim λv h=>f x y z u v h.1 h.2.1 h.2.2
theorem CA(e:∃x y z u v,A x y z u v/\B x y z u v/\C x y z u v/\D x y z u v)(f:∀x y z u v,A x y z u v->B x y z u v->C x y z u v->D x y z u v->G):G:=e.elim λx e=>e.elim λy e=>e.elim λz e=>e.elim λu e=>e.elim λv h=>f x y z u v h.1 h.2.1 h.2.2.1 h.2.2.2
theorem Ro(e:∃x y z u v,A x y z u v/\B x y z u v/\C x y z u v/\D x y z u v/\E x y z u v/\F x y z u v)(f:∀x y z u v,A x y z u v->B x y z u v->C x y z u v->D x y z u v->E x y z u v->F x y z u v->G):G:=e.elim λx e=>e.elim λy e=>e.elim λz e=>e.elim λu e=>e.elim λv h=>f x y z u v h.1 h.2.1 h.2.2.1 h.2.2.2.1 h.2.2.2.2.1 h.2.2.2.2.2
theorem PD(e:∃x y z u v,A x y z u v/\B x y z u v/\C x y z u v/\D x y z u v/\E x y z u v/\F x y z u v/\H x y z u v/\I x y z u v/\J x y z u v/\K x y z u v)(f:∀x y z u v,A x y z u v->B x y z u v->C x y z u v->D x y z u v->E x y z u v->F x y z u v->H x y z u v->I x y z u v->J x y z u v->K x y z u v->G):G:=e.elim λx e=>e.elim λy e=>e.elim λz e=>e.elim λu e=>e.elim λv h=>f x y z u v h.1 h.2.1 h.2.2.1 h.2.2.2.1 h.2.2.2.2.1 h.2.2.2.2.2.1 h.2.2.2.2.2.2.1 h.2.2.2.2.2.2.2.1 h.2.2.2.2.2.2.2.2.1 h.2.2.2.2.2.2.2.2.2
theorem OR(e:∃x y z u v,A x y z u v/\B x y z u v/\C x y z u v/\D x y z u v/\E x y z u v/\F x y z u v/\H x y z u v/\I x y z u v/\J x y z u v/\K x y z u v/\L x y z u v)(f:∀x y z u v,A x y z u v->B x y z u v->C x y z u v->D x y z u v->E x y z u v->F x y z u v->H x y z u v->I x y z u v->J x y z u v->K x y z u v->L x y z u v->G):G:=e.elim λx e=>e.elim λy e=>e.elim λz e=>e.elim λu e=>e.elim λv h=>f x y z u v h.1 h.2.1 h.2.2.1 h.2.2.2.1 h.2.2.2.2.1 h.2.2.2.2.2.1 h.2.2.2.2.2.2.1 h.2.2.2.2.2.2.2.1 h.2.2.2.2.2.2.2.2.1 h.2.2.2.2.2.2.2.2.2.1 h.2.2.2.2.2.2.2.2.2.2
theorem HM(e:∃x y z u v,A x y z u v/\B x y z u v/\C x y z u v/\D x y z u v/\E x y z u v/\F x y z u v/\H x y z u v/\I x y z u v/\J x y z u v/\K x y z u v/\L x y z u v/\M x y z u v/\N x y z u v)(f:∀x y z u v,A x y z u v->B x y z u v->C x y z u v->D x y z u v->E x y z u v->F x y z u v->H x y z u v->I x y z u v->J x y z u v->K x y z u v->L x y z u v->M x y z u v->N x y z u v->G):G:=e.elim λx e=>e.elim λy e=>e.elim λz e=>e.elim λu e=>e.elim λv h=>f x y z u v h.1 h.2.1 h.2.2.1 h.2.2.2.1 h.2.2.2.2.1 h.2.2.2.2.2.1 h.2.2.2.2.2.2.1 h.2.2.2.2.2.2.2.1 h.2.2.2.2.2.2.2.2.1 h.2.2.2.2.2.2.2.2.2.1 h.2.2.2.2.2.2.2.2.2.2.1 h.2.2.2.2.2.2.2.2.2.2.2.1 h.2.2.2.2.2.2.2.2.2.2.2.2
theorem HZ(e:∃x y z u v,A x y z u v/\B x y z u v/\C x y z u v/\D x y z u v/\E x y z u v/\F x y z u v/\H x y z u v/\I x y z u v/\J x y z u v/\K x y z u v/\L x y z u v/\M x y z u v/\N x y z u v/\O x y z u v)(f:∀x y z u v,A x y z u v->B x y z u v->C x y z u v->D x y z u v->E x y z u v->F x y z u v->H x y z u v->I x y z u v->J x y z u v->K x y z u v->L x y z u v->M x y z u v->N x y z u v->O x y z u v->G):G:=e.elim λx e=>e.elim λy e=>e.elim λz e=>e.elim λu e=>e.elim λv h=>f x y z u v h.1 h.2.1 h.2.2.1 h.2.2.2.1 h.2.2.2.2.1 h.2.2.2.2.2.1 h.2.2.2.2.2.2.1 h.2.2.2.2.2.2.2.1 h.2.2.2.2.2.2.2.2.1 h.2.2.2.2.2.2.2.2.2.1 h.2.2.2.2.2.2.2.2.2.2.1 h.2.2.2.2.2.2.2.2.2.2.2.1 h.2.2.2.2.2.2.2.2.2.2.2.2.1 h.2.2.2.2.2.2.2.2.2.2.2.2.2
end
section
variable{NA:Sort u1}{Pe:Sort u2}{Sj:Sort u3}{Yt:Sort u4}{α5:Sort u5}{α6:Sort u6}{A:NA->Pe->Sj->Yt->α5->α6->Prop}{G:Prop}
theorem rW(e:∃x y z u v w,A x y z u v w)(f:∀x y z u v w,A x y z u v w->G):G:=e.elim λx e=>e.elim λy e=>e.elim λz e=>e.elim λu e=>e.elim λv e=>e.elim λw h=>f x y z u v w h
end
@[elab_as_elim] theorem aj{c:Sort u1}{b:c}{motive:c->Prop}{a:c}(e:a=b)(h:motive b):motive a:=e▸h
@[elab_as_elim] theorem c_{c:Sort u1}{b:c}{motive:c->Prop}{a:c}(e:b=a)(h:motive b):motive a:=e▸h
theorem rt:true=true:=rfl
abbrev NE:=Nat.Internal.Linear.Expr
noncomputable abbrev zn(k:Nat):NE:=.num k
noncomputable abbrev zp(a b:NE):NE:=.add a b
noncomputable abbrev av:NE:=.var 0
noncomputable abbrev aX:NE:=.var 1
noncomputable abbrev bT:NE:=.var 2
noncomputable abbrev gi:NE:=.var 3
noncomputable abbrev r_:NE:=.var 4
noncomputable abbrev ED:NE:=.var 5
noncomputable abbrev Vb:NE:=.var 6
abbrev RN:=Lean.RArray Nat
noncomputable abbrev zc1(a:Nat):RN:=.leaf a
noncomputable abbrev Kq(a b:Nat):RN:=.branch 1 (.leaf a) (.leaf b)
noncomputable abbrev Yw(a b c:Nat):RN:=.branch 1 (.leaf a) (.branch 2 (.leaf b) (.leaf c))
abbrev zc4(a b c d:Nat):RN:=.branch 2 (Kq a b) (.branch 3 (.leaf c) (.leaf d))
abbrev zc5(a b c d e:Nat):RN:=.branch 4 (zc4 a b c d) (.leaf e)
abbrev zc6(a b c d e f:Nat):RN:=.branch 4 (zc4 a b c d) (.branch 5 (.leaf e) (.leaf f))
abbrev zc7(a b c d e f g:Nat):RN:=.branch 6 (zc6 a b c d e f) (.leaf g)
abbrev zc8(a b c d e f g h:Nat):RN:=.branch 7 (zc7 a b c d e f g) (.leaf h)
noncomputable abbrev zx7:NE:=.var 7
abbrev zc9(a b c d e f g h i:Nat):RN:=.branch 8 (zc8 a b c d e f g h) (.leaf i)
abbrev abI(a b c d e f g h i j:Nat):RN:=.branch 9 (zc9 a b c d e f g h i) (.leaf j)
abbrev abV(a b c d e f g h i j k:Nat):RN:=.branch 10 (abI a b c d e f g h i j) (.leaf k)
abbrev aaX(a b c d e f g h i j k l:Nat):RN:=.branch 11 (abV a b c d e f g h i j k) (.leaf l)
abbrev aan(a b c d e f g h i j k l m:Nat):RN:=.branch 12 (aaX a b c d e f g h i j k l) (.leaf m)
abbrev ab0(a b c d e f g h i j k l m n:Nat):RN:=.branch 13 (aan a b c d e f g h i j k l m) (.leaf n)
noncomputable abbrev zx8:NE:=.var 8
noncomputable abbrev zx9:NE:=.var 9
noncomputable abbrev Wx:NE:=.var 10
noncomputable abbrev Vk:NE:=.var 11
noncomputable abbrev Yv:NE:=.var 12
noncomputable abbrev Ym:NE:=.var 13
noncomputable def lqL(cs:List (NE×NE)):NE:=cs.foldr (λx y=>.add x.1 y) (.num 0)
noncomputable def lqR(cs:List (NE×NE)):NE:=cs.foldr (λx y=>.add x.2 y) (.num 0)
def QC(c:RN)(cs:List (NE×NE)):Prop:=cs.foldr (λx y=>x.1.denote c<=x.2.denote c->y) False
theorem lq0(c:RN)(a:List (NE×NE)):((lqL a).denote c<=(lqR a).denote c->False)->QC c a:=by
 induction a with
 |nil=>exact λh=>h (iY _)
 |cons x a i=>exact λh q=>i λy=>h (Dx q y)
theorem lq(c:RN)(a:List (NE×NE))(h:(Nat.Internal.Linear.ExprCnstr.mk false (lqL a) (lqR a)).toNormPoly.isUnsat=true):QC c a:=
 lq0 c a λq=>(B9 c _ h).mp q
noncomputable abbrev zs(a:NE):NE:=.add a (.num 1)
noncomputable abbrev zk(a:NE)(k:Nat):NE:=.add a (.num k)
noncomputable abbrev zm(k:Nat)(a:NE):NE:=.mulL k a
noncomputable def OT(c:RN)(cs:List (NE×NE))(g:NE×NE):Prop:=cs.foldr (λx y=>x.1.denote c<=x.2.denote c->y) (g.1.denote c<=g.2.denote c)
theorem lr0(c:RN)(a:List (NE×NE))(g:NE×NE):(g.2.denote c<g.1.denote c->QC c a)->OT c a g:=by
 induction a with
 |nil=>exact bW
 |cons x a i=>exact λh q=>i λn=>h n q
abbrev JF(cs:List (NE×NE)):Prop:=(Nat.Internal.Linear.ExprCnstr.mk false (lqL cs) (lqR cs)).toNormPoly.isUnsat=true
theorem lr{c:RN}(a:List (NE×NE))(g:NE×NE)(h:JF ((zs g.2,g.1)::a)):OT c a g:=lr0 c a g (lq c _ h)
theorem cH{a:Nat}(c:List (NE×NE))(h:JF c):QC (zc1 a) c:=lq _ c h
theorem FQ{a b:Nat}(c:List (NE×NE))(h:JF c):QC (Kq a b) c:=lq _ c h
theorem lq3{a b c:Nat}(d:List (NE×NE))(h:JF d):QC (Yw a b c) d:=lq _ d h
theorem lq5{a b c d e:Nat}(f:List (NE×NE))(h:JF f):QC (zc5 a b c d e) f:=lq _ f h
theorem DE(c:List (NE×NE))(h:JF c):QC (.leaf 0) c:=lq _ c h
theorem dK{a:Nat}(c:List (NE×NE))(g:NE×NE)(h:JF ((zs g.2,g.1)::c)):OT (zc1 a) c g:=lr c g h
theorem fp{a b:Nat}(c:List (NE×NE))(g:NE×NE)(h:JF ((zs g.2,g.1)::c)):OT (Kq a b) c g:=lr c g h
theorem gP{a b c:Nat}(d:List (NE×NE))(g:NE×NE)(h:JF ((zs g.2,g.1)::d)):OT (Yw a b c) d g:=lr d g h
theorem yj{a b c d:Nat}(e:List (NE×NE))(g:NE×NE)(h:JF ((zs g.2,g.1)::e)):OT (zc4 a b c d) e g:=lr e g h
theorem Qh{a b c d e:Nat}(f:List (NE×NE))(g:NE×NE)(h:JF ((zs g.2,g.1)::f)):OT (zc5 a b c d e) f g:=lr f g h
theorem UY{a b c d e f:Nat}(i:List (NE×NE))(g:NE×NE)(h:JF ((zs g.2,g.1)::i)):OT (zc6 a b c d e f) i g:=lr i g h
theorem lr7{a b c d e f i:Nat}(j:List (NE×NE))(g:NE×NE)(h:JF ((zs g.2,g.1)::j)):OT (zc7 a b c d e f i) j g:=lr j g h
abbrev IE:=Int.Internal.Linear.Expr
noncomputable abbrev yn(k:Int):IE:=.num k
noncomputable abbrev yp(a b:IE):IE:=.add a b
noncomputable abbrev cN:IE:=.var 0
noncomputable abbrev dX:IE:=.var 1
noncomputable abbrev fY:IE:=.var 2
noncomputable abbrev vH:IE:=.var 3
noncomputable abbrev U2:IE:=.var 4
noncomputable abbrev yx5:IE:=.var 5
abbrev RI:=Lean.RArray Int
noncomputable abbrev WI(a:Int):RI:=.leaf a
noncomputable abbrev yc2(a b:Int):RI:=.branch 1 (.leaf a) (.leaf b)
noncomputable abbrev yc3(a b c:Int):RI:=.branch 1 (.leaf a) (.branch 2 (.leaf b) (.leaf c))
abbrev Y_(a b c d:Int):RI:=.branch 2 (yc2 a b) (.branch 3 (.leaf c) (.leaf d))
abbrev yc5(a b c d e:Int):RI:=.branch 4 (Y_ a b c d) (.leaf e)
abbrev yc6(a b c d e f:Int):RI:=.branch 4 (Y_ a b c d) (.branch 5 (.leaf e) (.leaf f))
noncomputable def lyL(cs:List (IE×IE)):IE:=cs.foldr (λx y=>.add x.1 y) (.num 0)
noncomputable def lyR(cs:List (IE×IE)):IE:=cs.foldr (λx y=>.add x.2 y) (.num 0)
def SU(c:RI)(cs:List (IE×IE)):Prop:=cs.foldr (λx y=>x.1.denote c<=x.2.denote c->y) False
theorem ly0(c:RI)(a:List (IE×IE)):((lyL a).denote c<=(lyR a).denote c->False)->SU c a:=by
 induction a with
 |nil=>exact λh=>h (Int.le_refl _)
 |cons x a i=>exact λh q=>i λy=>h (Int.add_le_add q y)
theorem ly(c:RI)(a:List (IE×IE))(h:((lyL a).sub (lyR a)).norm.isUnsatLe=true):SU c a:=
 ly0 c a λq=>Int.Internal.Linear.le_unsat c _ h (Int.Internal.Linear.le_norm_expr c _ _ _ (by unfold Int.Internal.Linear.norm_eq_cert;simp) q)
noncomputable abbrev ys(a:IE):IE:=.add a (.num 1)
noncomputable abbrev ym(k:Int)(a:IE):IE:=.mulL k a
noncomputable def DQ(c:RI)(cs:List (IE×IE))(g:IE×IE):Prop:=cs.foldr (λx y=>x.1.denote c<=x.2.denote c->y) (g.1.denote c<=g.2.denote c)
theorem aay(c:RI)(a:List (IE×IE))(g:IE×IE):(g.2.denote c<g.1.denote c->SU c a)->DQ c a g:=by
 induction a with
 |nil=>exact fj.mp
 |cons x a i=>exact λh q=>i λn=>h n q
abbrev NK(cs:List (IE×IE)):Prop:=((lyL cs).sub (lyR cs)).norm.isUnsatLe=true
theorem U6{c:RI}(a:List (IE×IE))(g:IE×IE)(h:NK ((ys g.2,g.1)::a)):DQ c a g:=aay c a g (ly c _ h)
theorem U5{a:Int}(c:List (IE×IE))(h:NK c):SU (WI a) c:=ly _ c h
theorem Vi{a b:Int}(c:List (IE×IE))(h:NK c):SU (yc2 a b) c:=ly _ c h
theorem ly3{a b c:Int}(d:List (IE×IE))(h:NK d):SU (yc3 a b c) d:=ly _ d h
theorem ly4{a b c d:Int}(e:List (IE×IE))(h:NK e):SU (Y_ a b c d) e:=ly _ e h
theorem oZ{a:Int}(c:List (IE×IE))(g:IE×IE)(h:NK ((ys g.2,g.1)::c)):DQ (WI a) c g:=U6 c g h
theorem oE{a b:Int}(c:List (IE×IE))(g:IE×IE)(h:NK ((ys g.2,g.1)::c)):DQ (yc2 a b) c g:=U6 c g h
theorem jY{a b c:Int}(d:List (IE×IE))(g:IE×IE)(h:NK ((ys g.2,g.1)::d)):DQ (yc3 a b c) d g:=U6 d g h
theorem Al{a b c d:Int}(e:List (IE×IE))(g:IE×IE)(h:NK ((ys g.2,g.1)::e)):DQ (Y_ a b c d) e g:=U6 e g h
theorem aat{a b c d e:Int}(f:List (IE×IE))(g:IE×IE)(h:NK ((ys g.2,g.1)::f)):DQ (yc5 a b c d e) f g:=U6 f g h
theorem X5{a b c d e f:Int}(i:List (IE×IE))(g:IE×IE)(h:NK ((ys g.2,g.1)::i)):DQ (yc6 a b c d e f) i g:=U6 i g h
theorem dc{p:Prop}[Decidable p](h:decide p=true):p:=of_decide_eq_true h
theorem gV{a:Nat}:0<=(a:Int):=d0 _
theorem kv{a b:Nat}:a%(b+1)<b+1:=fT _ (ij _)
theorem qQ{a:Nat}:a<=a:=iY _
theorem uX{a b:Nat}:a<=a+b:=ji _ _
theorem spo{a:Nat}:0<a+1:=ij _
theorem kf{b:Type _}{a:b}{l:List b}:a∈a::l:=.head _
theorem fV{c:Type _}{a b:c}{l:List c}(h:a∈l):a∈b::l:=.tail _ h
@[elab_as_elim] theorem lcs{b:Type _}{motive:List b->Prop}(t:List b)(nil:motive [])(cons:∀a l,motive (a::l)):motive t:=List.casesOn t nil cons
@[elab_as_elim] theorem tU{b:Type _}{motive:Option b->Prop}(t:Option b)(none:motive .none)(some:∀a,motive (.some a)):motive t:=Option.casesOn t none some
@[elab_as_elim] theorem tW{motive:Bool->Prop}(t:Bool)(false:motive .false)(true:motive .true):motive t:=Bool.casesOn t false true
theorem mnn{m k:Nat}:min (m:Int) (k:Int)=((min m k:Nat):Int):=(IC m k).elim (λh=>(Int.min_eq_left (aw.mpr h)).trans (congrArg gX (fc h).symm)) λh=>(Int.min_eq_right (aw.mpr h)).trans (congrArg gX (mf h).symm)
theorem mnc{k:Nat}:min 1 (k:Int)=((min 1 k:Nat):Int):=mnn (m:=1)
theorem JR{x m:Nat}(h:x<m)(e:dO m (2^100)=true):((x:Nat):Int).natAbs<2^100:=a_ h (aE e)
theorem Yf{a b c:Nat}(h:b-c=a)(p:0<a):c+a=b:=by rw[<-h] at p⊢;exact Nat.add_sub_cancel' (gk (Nat.lt_of_sub_pos p))
theorem Wj{a b c:Nat}(h:a<=b+c)(z:c<=100):((a-b:Nat):Int)<2^60:=ik (aw.mpr (aF (Nat.sub_le_iff_le_add'.mpr h) z)) (dc rfl)
theorem n63{a:Nat}{k:Int}(h: -(a:Int)<=k)(z:a<=100000): -2^63<=k:=fO (fO (show(-2^63:Int)<= -((100000:Nat):Int) from dc rfl) (Int.neg_le_neg (aw.mpr z))) h
theorem mn8{k:Nat}:3+min 5 k<=8:=cV (uc 5 k) 3
theorem mn5{k:Nat}:(3:Int)+min 5 (k:Int)=((3+min 5 k:Nat):Int):=congrArg (3+ ·) (mnn (m:=5))
theorem sz1{x:Nat}:0<1+x:=a_ Nat.one_pos (ji 1 x)
theorem sz2{x y:Nat}:0<1+x+y:=a_ sz1 (ji _ _)
theorem sz3{x y z:Nat}:0<1+x+y+z:=a_ sz2 (ji _ _)
theorem dM{a m n:Nat}(h:a<=m)(e:dO m n=true):a<=n:=aF h (aE e)
theorem nS{a m n:Nat}(e:ip m n=false):a+m≠a+n:=λh=>tL e (Nat.add_left_cancel h)
theorem lM{a b m n:Nat}(h:a=b)(l:b<=m)(e:dO m n=true):a<=n:=h▸dM l e
theorem vG{a m n:Nat}(e:dO m n=true):a+m<=a+n:=cV (aE e) a
theorem zw5{a m n:Nat}(h:a<m)(e:dO m (n+1)=true):a<=n:=dh (a_ h (aE e))
theorem P6{a m n:Nat}(h:a<m)(e:dO m n=true):a<n:=dM h e
theorem OV{a m k n:Nat}(h:a<=m)(e:dO (m+k) n=true):a+k<=n:=dM (Nat.add_le_add_right h k) e
theorem TF{a m n:Nat}(h:a=m)(e:ip m n=false):a≠n:=h▸tL e
theorem zwb{a m n:Nat}(h:a=m)(e:dO m n=true):a<=n:=h▸aE e
theorem YD{a b k m n:Nat}(h:a<=k*b)(l:b<=m)(e:dO (k*m) n=true):a<=n:=dM (aF h (aP k l)) e
theorem Oq{a b k m n:Nat}(h:a<=k)(l:b<=m)(e:dO (k+m) n=true):a+b<=n:=dM (Dx h l) e
theorem zwc{a b c m n:Nat}(h:a+b=c)(l:c<=m)(e:dO m n=true):a<=n:=dM (aF (ji a b) (h▸l)) e
theorem zwd{a k m n:Nat}(h:a+k<=m)(e:dO m n=true):a<=n:=dM (aF (ji a k) h) e
theorem zo1{a:Nat}:2<a->1<a:=λh0=>dK [(zs (zn 2),av)] (zs (zn 1),av) rt h0
theorem zo2{a:Int}{b:Nat}{c:Prop}:0<=a/\a<=1000/\b<2^64/\c->a<=1000000:=λh0=>oZ [(cN,yn 1000)] (cN,yn 1000000) rt h0.2.1
theorem zo3{a b c:Nat}:a=b->c=b->a=c:=λh0 h1=>aS (gP [(av,aX),(aX,bT)] (av,bT) rt (aa h0) (aa (ao h1))) (gP [(av,aX),(bT,av)] (bT,aX) rt (aa (ao h0)) (aa h1))
theorem zo4{a b:Nat}:a+20<b->a<b:=λh0=>fp [(zs (zk av 20),aX)] (zs av,aX) rt h0
theorem zo5{a:Int}{b:Nat}:a.toNat<b->b<=100000->a<2^63:=λh z=>ik (iN a) (Int.lt_of_lt_of_le (aU.mpr h) (fO (aw.mpr z) (dc rfl)))
theorem zo6{a:Int}:0<=a->¬a<0:=λh0=>λz=>U5 [(yn 0,cN),(ys cN,yn 0)] rt h0 z
theorem zo7{a b:Nat}:(a:Int)<(b:Int)->a<b:=aU.mp
theorem U8{a b:Nat}:a<=b->a<=b+1:=λh0=>fp [(av,aX)] (av,zs aX) rt h0
theorem zo9{a b c:Nat}:a<b->c=b->a<c:=λh0 h1=>gP [(zs av,aX),(aX,bT)] (zs av,bT) rt h0 (aa (ao h1))
theorem XZ{a:Nat}{b:Prop}{c:Nat}:a<=1000/\b->c=a->c<=16777216:=λh0 h1=>fp [(av,zn 1000),(aX,av)] (aX,zn 16777216) rt h0.1 (aa h1)
theorem XC{a b:Nat}:a<b->a+1<=b:=λh0=>fp [(zs av,aX)] (zs av,aX) rt h0
theorem VD{a b c:Nat}:a+b+c=a+(b+c):=aS (gP [] (zp (zp av aX) bT,zp av (zp aX bT)) rt) (gP [] (zp av (zp aX bT),zp (zp av aX) bT) rt)
theorem aa9{a b:Nat}:a<b->b-a=b-a-1+1:=λh0=>aS (aw.mp (jY [(.sub cN (yn 1),dX),(ys dX,fY)] (cN,fY) rt (aG (ao (cW (aw.mp (Al [(ys cN,dX),(fY,yp vH cN),(dX,fY)] (yn 1,vH) rt (aU.mpr h0) (aG (bh _ _)) (aw.mpr (iZ (iY _)))))))) (aG (ao (bh _ _))))) (aw.mp (jY [(cN,.sub dX (yn 1)),(fY,ys cN)] (fY,dX) rt (aG (cW (aw.mp (Al [(ys cN,dX),(fY,yp vH cN),(dX,fY)] (yn 1,vH) rt (aU.mpr h0) (aG (bh _ _)) (aw.mpr (iZ (iY _))))))) (aG (bh _ _))))
theorem aaw{a b c d:Nat}:a<b->c=b->c=d->a<d:=λh0 h1 h2=>yj [(zs av,aX),(aX,bT),(bT,gi)] (zs av,gi) rt h0 (aa (ao h1)) (aa h2)
theorem aad{a b c:Nat}:a-b=c+1->a-(b+1)=c:=congrArg Nat.pred
theorem aaP{a b:Nat}:0=a-b->b<=a->b=a:=λh0 h1=>aS (gP [(zp av aX,bT)] (aX,bT) rt (aa (bM (fp [(av,aX)] (av,aX) rt h1)))) (gP [(av,zn 0),(aX,zp av bT)] (aX,bT) rt (aa (ao h0)) (aa (ao (bM (fp [(av,aX)] (av,aX) rt h1)))))
theorem abp{a b c:Nat}:a=b->a=c->b<=c:=λh0 h1=>gP [(av,aX),(aX,bT)] (av,bT) rt (aa (ao h0)) (aa h1)
theorem abj{a b:Nat}:a<=b->¬0+a>b:=λh0=>λz=>FQ [(av,aX),(zs aX,zp (zn 0) av)] rt h0 z
theorem RS{a:Int}{b:Nat}:(a+(b:Int)-a).toNat=b:=by rw[Int.add_comm,Int.add_sub_cancel];rfl
theorem S_{a:Int}:0<=a-> -2^62<=a:=fO (dc rfl)
theorem T8{a:Int}:a<=1000->a<2^62:=λh0=>oZ [(cN,yn 1000)] (ys cN,yn 4611686018427387904) rt h0
theorem GY{a b c:Nat}:1+a+b<c+1->a<c:=λh0=>gP [(zs (zp (zp (zn 1) av) aX),zs bT)] (zs av,bT) rt h0
theorem Gn{a b c:Nat}:a+b<c->b<c:=λh0=>gP [(zs (zp av aX),bT)] (zs aX,bT) rt h0
theorem Xr{a b:Nat}:1+a<b+1->a<b:=λh0=>fp [(zs (zp (zn 1) av),zs aX)] (zs av,aX) rt h0
theorem I_{a b:Nat}:1+a<b->a<b:=λh0=>fp [(zs (zp (zn 1) av),aX)] (zs av,aX) rt h0
theorem Gp{a b c d:Nat}:1+a+b+c<d+1->a<d:=λh0=>yj [(zs (zp (zp (zp (zn 1) av) aX) bT),zs gi)] (zs av,gi) rt h0
theorem I8{a b c d:Nat}:1+a+b+c<d+1->b<d:=λh0=>yj [(zs (zp (zp (zp (zn 1) av) aX) bT),zs gi)] (zs aX,gi) rt h0
theorem MA{a b c d:Nat}:1+a+b+c<d+1->c<d:=λh0=>yj [(zs (zp (zp (zp (zn 1) av) aX) bT),zs gi)] (zs bT,gi) rt h0
theorem Yu{a b c:Nat}:1+a+b<c+1->b<c:=λh0=>gP [(zs (zp (zp (zn 1) av) aX),zs bT)] (zs aX,bT) rt h0
theorem V5{a b c d e:Nat}:1+a+b+c+d<e+1->d<e:=λh0=>Qh [(zs (zp (zp (zp (zp (zn 1) av) aX) bT) gi),zs r_)] (zs gi,r_) rt h0
theorem T7{a:Nat}:0<a->(a:Int)≠0:=λh e=>ID h (fF e)
theorem VB{a b:Nat}:a<=b+1->a / 128<=b:=λh=>dh (aK (Nat.div_le_div_right h) (Nat.div_lt_self spo (dc rfl)))
theorem So{a:Nat}:a<128->¬128<=(a:Int):=λh q=>tM.mpr h (aw.mp q)
theorem YL{a:Nat}:¬a<128->¬(a:Int)<128:=λh q=>h (aU.mp q)
theorem Tp{a b:Nat}:(a:Int)<=(b:Int)->a<=b:=aw.mp
theorem VO{a:Int}:a<128->a.toNat<128:=λh=>(Int.toNat_lt' (dc rfl)).mpr h
theorem X0{a:Int}:a<128->a<256:=λh0=>oZ [(ys cN,yn 128)] (ys cN,yn 256) rt h0
theorem Xi{a:Int}:a<128->a<=18446744073709551615:=λh0=>oZ [(ys cN,yn 128)] (cN,yn 18446744073709551615) rt h0
theorem Mz{a:Nat}:¬(a:Int)<0:=fj.mpr gV
theorem V8{a b c:Nat}:a<=10->b<=c->b+a<=c+10:=λh0 h1=>gP [(av,zn 10),(aX,bT)] (zp aX av,zk bT 10) rt h0 h1
theorem Ry{a b:Nat}:a<=b->a+1<=b+1:=λh0=>fp [(av,aX)] (zs av,zs aX) rt h0
theorem WR{a b c:Nat}:a+b=c->c<64->a<=100000:=λh0 h1=>gP [(zp av aX,bT),(zs bT,zn 64)] (av,zn 100000) rt (aa h0) h1
theorem Yc{a:Nat}:a<=1000->(a:Int)<=1000:=λh=>aw.mpr h
theorem aav{a:Nat}:((a:Int)-0).toNat=a:=congrArg Int.toNat (Int.sub_zero a)
theorem WB{a:Nat}:a<=10->(a:Int)<=18446744073709551615:=λh=>fO (aw.mpr h) (dc rfl)
theorem Th{a:Int}:a<=6->a<=18446744073709551615:=λh0=>oZ [(cN,yn 6)] (cN,yn 18446744073709551615) rt h0
theorem Lc{a b:Nat}:a<=b->¬(b:Int)<(a:Int):=λh=>fj.mpr (aw.mpr h)
theorem Bm{a:Nat}:0<=(a:Int):=gV
theorem XE{a b:Nat}:(a:Int)<=(b:Int)->a-b=0:=λh=>JK (aw.mp h)
theorem Xk{a b:Nat}:¬((a+b:Nat):Int)<(a:Int):=fj.mpr (aw.mpr uX)
theorem Yo{a b:Nat}:((a+b:Nat):Int)+1-(a:Int)=((b+1:Nat):Int):=by rw[bh,Int.add_assoc,Int.add_comm,Int.add_sub_cancel];rfl
theorem NN{a b:Nat}:a<b->¬(b:Int)<=(a:Int):=λh=>mh.mpr (aU.mpr h)
theorem Wd{a:Nat}:a%128+128<256:=dK [(zs av,zn 128)] (zs (zk av 128),zn 256) rt (fT _ (ij _))
theorem Rh{a:Nat}:(a:Int)<128->¬128<=a:=λh=>tM.mpr (aU.mp h)
theorem XQ{a b:Nat}:0<=(a:Int)+(b:Int):=Int.add_nonneg gV gV
theorem Vw{a b c:Nat}:a<=b->a<=b+c:=λh0=>gP [(av,aX)] (av,zp aX bT) rt h0
theorem Wb{a:Nat}:¬a+1=0:=λz=>cH [(zs av,zn 0)] rt (aa z)
theorem PC{a:Nat}:(a:Int)+1=((a+1:Nat):Int):=rfl
theorem V4{a b c:Nat}:a<=10->b<=10->c<=10->a+b+c<=1000000:=λh0 h1 h2=>gP [(av,zn 10),(aX,zn 10),(bT,zn 10)] (zp (zp av aX) bT,zn 1000000) rt h0 h1 h2
theorem OJ{a b:Nat}:(a:Int)+(b:Int)=((a+b:Nat):Int):=rfl
theorem Uu{a b c:Nat}:a+(b+1)=c->a<c:=λh0=>gP [(zp av (zs aX),bT)] (zs av,bT) rt (aa h0)
theorem o6{a:Nat}:a<2^64->(a:Int)<=18446744073709551615:=λh=>aw.mpr (dh (n:=18446744073709551615) h)
theorem X7{a b:Nat}:a<=10*b->b<=30->1+a+4<=400:=λh0 h1=>fp [(av,zm 10 aX),(zm 10 aX,zm 10 (zn 30))] (zk (zp (zn 1) av) 4,zn 400) rt h0 (aP 10 h1)
theorem X1{a b c:Nat}:a+b+c<=6000->a+1<=1000000:=λh0=>gP [(zp (zp av aX) bT,zn 6000)] (zs av,zn 1000000) rt h0
theorem Uv{a:Nat}:(a:Int)=0->a=0:=λh=>fF h
theorem VZ{a b c d e:Nat}:a<=10->b<=10->c<=10->d<=210->e<=210->a+b+c+d+e+1<=1000000:=λh0 h1 h2 h3 h4=>Qh [(av,zn 10),(aX,zn 10),(bT,zn 10),(gi,zn 210),(r_,zn 210)] (zs (zp (zp (zp (zp av aX) bT) gi) r_),zn 1000000) rt h0 h1 h2 h3 h4
theorem Xx{a b:Nat}:a+5<=b->a<=b:=λh0=>fp [(zk av 5,aX)] (av,aX) rt h0
theorem Wq{a:Int}{b:Nat}:a<=200*((b:Int)+1)->a<=200*(((b+1:Nat):Int)+1):=λh=>fO h (d9 (Int.add_le_add_right (aw.mpr (mJ b)) 1) (dc rfl))
theorem VQ{a b:Nat}:110<=a+b->110<=a+(b+1):=λh0=>fp [(zn 110,zp av aX)] (zn 110,zp av (zs aX)) rt h0
theorem VF{a b:Nat}:a<=2^57+100*b->a<=2^57+100*(b+1):=λh0=>fp [(av,zp (zn 144115188075855872) (zm 100 aX))] (av,zp (zn 144115188075855872) (zm 100 (zs aX))) rt h0
theorem Yd{a:Nat}:a≠a+1:=λz=>cH [(zs av,av)] rt (aa (ao z))
theorem WY{a b:Nat}:a=1->b=a+1->b=2:=λh0 h1=>aS (fp [(av,zn 1),(aX,zs av)] (aX,zn 2) rt (aa h0) (aa h1)) (fp [(zn 1,av),(zs av,aX)] (zn 2,aX) rt (aa (ao h0)) (aa (ao h1)))
theorem WV{a:Nat}:a=1\/a=4->a≠0:=λh0=>λb=>h0.elim (λz=>cH [(av,zn 0),(zn 1,av)] rt (aa b) (aa (ao z))) (λz=>cH [(av,zn 0),(zn 4,av)] rt (aa b) (aa (ao z)))
theorem WM{a b:Nat}:a=b+1->a≠0:=λh0=>λz=>FQ [(zs av,aX),(aX,zn 0)] rt (aa (ao h0)) (aa z)
theorem WL{a:Nat}:a%3<=2:=dK [(zs av,zn 3)] (av,zn 2) rt (fT _ (ij _))
theorem NF{a:Nat}:a%4<=3:=dK [(zs av,zn 4)] (av,zn 3) rt (fT _ (ij _))
theorem Y7{a b:Nat}:a<b->(a:Int)<(b:Int):=aU.mpr
theorem VT{a:Nat}:0<=(a:Int)*2:=Int.mul_nonneg gV (dc rfl)
theorem Yq{a:Nat}:((a%2:Nat):Int)*2<=18446744073709551615:=fO (Int.mul_le_mul_of_nonneg_right (aw.mpr (dh kv)) (dc rfl)) (dc rfl)
theorem R7{a:Nat}:1<=a/\a<=5->1<=a/\a<=14:=λh0=>⟨h0.1,dK [(av,zn 5)] (av,zn 14) rt h0.2⟩
theorem Yj{a:Nat}:a=1\/a=3\/a=6->1<=a/\a<=14:=λh0=>⟨h0.elim (λY=>dK [(zn 1,av)] (zn 1,av) rt (aa (ao Y))) (λY=>Y.elim (λV=>dK [(zn 3,av)] (zn 1,av) rt (aa (ao V))) (λV=>dK [(zn 6,av)] (zn 1,av) rt (aa (ao V)))),h0.elim (λR=>dK [(av,zn 1)] (av,zn 14) rt (aa R)) (λR=>R.elim (λG=>dK [(av,zn 3)] (av,zn 14) rt (aa G)) (λG=>dK [(av,zn 6)] (av,zn 14) rt (aa G)))⟩
theorem WD{a:Nat}:a=14->1<=a/\a<=14:=λh0=>⟨dK [(zn 14,av)] (zn 1,av) rt (aa (ao h0)),dK [(av,zn 14)] (av,zn 14) rt (aa h0)⟩
theorem YS{a:Nat}:a≠a+2:=λG=>cH [(zk av 2,av)] rt (aa (ao G))
theorem Vy{a:Nat}:20+5<=a->a≠20/\a≠21:=λh0=>⟨λL=>cH [(zk (zn 20) 5,av),(av,zn 20)] rt h0 (aa L),λN=>cH [(zk (zn 20) 5,av),(av,zn 21)] rt h0 (aa N)⟩
theorem YQ{a:Nat}:((a%10:Nat):Int)≠8->((a%10:Nat):Int)≠9->a%10<=7:=λh8 h9=>dh (Nat.lt_of_le_of_ne (dh (Nat.lt_of_le_of_ne (dh kv) λe=>h9 (congrArg gX e))) λe=>h8 (congrArg gX e))
theorem Vr{a:Int}{b c:Nat}:a=(b:Int)->a+1+(c:Int)=((b+1+c:Nat):Int):=λh=>by rw[h];rfl
theorem Wg{a:Nat}:a=0->(a:Int)=0:=congrArg gX
theorem Xm{a b:Nat}:a<5->b=a->b<=100000:=λh0 h1=>fp [(zs av,zn 5),(aX,av)] (aX,zn 100000) rt h0 (aa h1)
theorem XF{a:Nat}:(a:Int)≠0->0<a:=λh=>Nat.pos_of_ne_zero λe=>h (congrArg gX e)
theorem Vx{a:Nat}:a+2=1\/a+2=3\/a+2<=a+2/\a+2<=a+4:=.inr (.inr (⟨dK [] (zk av 2,zk av 2) rt,dK [] (zk av 2,zk av 4) rt⟩))
theorem Xn{a:Nat}:a+3=1\/a+3=3\/a+2<=a+3/\a+3<=a+4:=.inr (.inr (⟨dK [] (zk av 2,zk av 3) rt,dK [] (zk av 3,zk av 4) rt⟩))
theorem Wm{a:Nat}:a+4=1\/a+4=3\/a+2<=a+4/\a+4<=a+4:=.inr (.inr (⟨dK [] (zk av 2,zk av 4) rt,dK [] (zk av 4,zk av 4) rt⟩))
theorem YK{a:Nat}:0<=1+(a:Int):=Int.add_nonneg (dc rfl) gV
theorem Yx{a:Nat}:1<=a/\a<=14->a≠0/\a<=24/\a≠20/\a≠21:=λh0=>⟨λD=>cH [(zn 1,av),(av,zn 0)] rt h0.1 (aa D),⟨dK [(av,zn 14)] (av,zn 24) rt h0.2,⟨λM=>cH [(av,zn 14),(zn 20,av)] rt h0.2 (aa (ao M)),λb=>cH [(av,zn 14),(zn 21,av)] rt h0.2 (aa (ao b))⟩⟩⟩
theorem Um:20+5<=24->False:=dc rfl
theorem Xq:20+7<=24->False:=dc rfl
theorem Vo{a:Nat}:((a%7:Nat):Int)<=6:=aw.mpr (dh kv)
theorem Vz{a b c:Nat}:a=b->c=b->a<=c:=λh0 h1=>gP [(av,aX),(aX,bT)] (av,bT) rt (aa h0) (aa (ao h1))
theorem Yz{a b:Nat}:a<=2*(b+1)->b<=20->a<=100:=λh0 h1=>fp [(av,zm 2 (zs aX)),(zm 2 aX,zm 2 (zn 20))] (av,zn 100) rt h0 (aP 2 h1)
theorem Na{a:Nat}:1+(a:Int)=((1+a:Nat):Int):=rfl
theorem Qi{a b c:Nat}:1+a%2=b->c=b->c<=1000:=λh0 h1=>gP [(av,zp (zn 1) aX),(bT,av),(zs aX,zn 2)] (bT,zn 1000) rt (aa (ao h0)) (aa h1) (fT _ (ij _))
theorem QJ{a b c d:Nat}:1+a%2=b->c=b->c=d+1->d<=100:=λh0 h1 h2=>yj [(av,zp (zn 1) aX),(bT,av),(zs gi,bT),(zs aX,zn 2)] (gi,zn 100) rt (aa (ao h0)) (aa h1) (aa (ao h2)) (fT _ (ij _))
theorem Qo{a:Nat}:0<(a:Int)->0<a:=aU.mp
theorem Qm{a:Nat}:40<=a->a≠0:=λh0=>λK=>cH [(zn 40,av),(av,zn 0)] rt h0 (aa K)
theorem N4{a:Nat}:a=1\/a=3\/20<=a/\a<=20+10->a≠0:=λh0=>λz=>h0.elim (λC=>cH [(av,zn 0),(zn 1,av)] rt (aa z) (aa (ao C))) (λC=>C.elim (λD=>cH [(av,zn 0),(zn 3,av)] rt (aa z) (aa (ao D))) (λD=>cH [(av,zn 0),(zn 20,av)] rt (aa z) D.1))
@[elab_as_elim] theorem nb1{P:Nat->Prop}{k:Nat}(h:k<1)(p0:P 0):P k:=Nat.lt_one_iff.mp h▸p0
@[elab_as_elim] theorem nb2{P:Nat->Prop}{k:Nat}(h:k<2)(p0:P 0)(p1:P 1):P k:=(eg.mp h).elim (λh=>nb1 h p0) λe=>e▸p1
@[elab_as_elim] theorem UA{P:Nat->Prop}{k:Nat}(h:k<3)(p0:P 0)(p1:P 1)(p2:P 2):P k:=(eg.mp h).elim (λh=>nb2 h p0 p1) λe=>e▸p2
@[elab_as_elim] theorem W_{P:Nat->Prop}{k:Nat}(h:k<4)(p0:P 0)(p1:P 1)(p2:P 2)(p3:P 3):P k:=(eg.mp h).elim (λh=>UA h p0 p1 p2) λe=>e▸p3
@[elab_as_elim] theorem nb5{P:Nat->Prop}{k:Nat}(h:k<5)(p0:P 0)(p1:P 1)(p2:P 2)(p3:P 3)(p:P 4):P k:=(eg.mp h).elim (λh=>W_ h p0 p1 p2 p3) λe=>e▸p
@[elab_as_elim] theorem nb6{P:Nat->Prop}{k:Nat}(h:k<6)(p0:P 0)(p1:P 1)(p2:P 2)(p3:P 3)(a:P 4)(p:P 5):P k:=(eg.mp h).elim (λh=>nb5 h p0 p1 p2 p3 a) λe=>e▸p
@[elab_as_elim] theorem nb7{P:Nat->Prop}{k:Nat}(h:k<7)(p0:P 0)(p1:P 1)(p2:P 2)(p3:P 3)(b:P 4)(a:P 5)(p:P 6):P k:=(eg.mp h).elim (λh=>nb6 h p0 p1 p2 p3 b a) λe=>e▸p
@[elab_as_elim] theorem Y0{P:Nat->Prop}{k:Nat}(h:k<8)(p0:P 0)(p1:P 1)(p2:P 2)(p3:P 3)(c:P 4)(b:P 5)(a:P 6)(p:P 7):P k:=(eg.mp h).elim (λh=>nb7 h p0 p1 p2 p3 c b a) λe=>e▸p
section
variable{M:Model}
variable{A:Around}
variable{Ex:Value->Shared->Prop}
variable{s:Shared}
variable{au:mA}
variable{af:eE}
variable{w:bY}
section
open Sem (wp)
noncomputable def sr:List String:=fZ++["bytearray.__contains__","bytearray.__mod__","bytearray.__rmod__","_struct.pack_into.held","bytearray.find.held"]
def oY:Code->Bool
 | .builtin id _=>!(sr.contains id)
 |_=>true
def OkB(Γ:Ctx):Prop:=∀x∈Γ.below,oY x.1=true
def bO{α:Type}(M:Model)(A:Around)(t:Sem α)(Q:α->Shared->Prop)(Ex:Value->Shared->Prop)(s:Shared):Prop:=
 ∀Γ p,Γ.In A->oY Γ.code=true->OkB Γ->wp M Γ t (λa _ s'=>Q a s') (λe _ s'=>Ex e s') p s
def dV(M:Model)(A:Around)(c:Code)(R:Dy->Shared->Prop)(s:Shared):Prop:=
 oY c=true/\∀Γ p,Γ.code=c->Γ.Below A->OkB Γ->wpCode M Γ R p s
section
variable{α β:Type}
theorem bc(h:bP M A t Q Ex s):bO M A t Q Ex s:=λa p x _ _=>h a p x
theorem bj(h:Q a s):bO M A (pure a) Q Ex s:=λ_ _ _ _ _=>h
theorem p_mono(h:bO M A t Q Ex s)(c:∀a s,Q a s->Q' a s)(d:∀e s,Ex e s->E' e s):bO M A t Q' E' s:=
 λb p x h1 h2=>vI M b t (λa _ s=>c a s) (λe _ s=>d e s) p s (h b p x h1 h2)
theorem az(h:bO M A m (λa s'=>bO M A (f a) Q Ex s') Ex s):bO M A (m>>= f) Q Ex s:=λb p x h1 h2=>by
 rw[Sem.wp_bind'];exact vI M b m (λa d s' c=>c b d x h1 h2) (λ_ _ _ c=>c) p s (h b p x h1 h2)
theorem pD(h:bO M A m Q (λe s'=>bO M A (k e) (λ_ C=>Ex e C) Ex s') s):bO M A (m.onRaise k) Q Ex s:=λa p x h1 h2=>by
 rw[Sem.wp_onRaise];exact vI M a m (λ_ _ _ b=>b) (λe c s' b=>b a c x h1 h2) p s (h a p x h1 h2)
theorem BI{Q:Except Value α->Shared->Prop}(h:bO M A m (λa=>Q (.ok a)) (λe=>Q (.error e)) s):bO M A m.attempt Q Ex s:=λb p x h1 h2=>by rw[Sem.wp_attempt];exact h b p x h1 h2
theorem bK(h:bO M A m Q Ex s):bO M A (holding vs m) Q Ex s:=λa p x h1 h2=>by rw[Sem.wp_holding];exact h a p x h1 h2
theorem bz(h:Q () s):bO M A (standAt pos) Q Ex s:=λ_ _ _ _ _=>h
theorem FX(h:Q () s):bO M A (rule tag) Q Ex s:=λ_ _ _ _ _=>h
theorem Iy(h:Q () s):bO M A point Q Ex s:=bc (wpAny_point h)
theorem pJ(h:bO M A m Q Ex s):bO M A (operate vs m) Q Ex s:=λa p x h1 h2=>by rw[Sem.wp_operate];exact h a p x h1 h2
theorem xn(h:Q () s):bO M A (release vs l) Q Ex s:=λa p x h1 h2=>by rw[Sem.wp_release];exact h
theorem Ww(h:Q ⟨M.prog,M.w.params⟩ s):bO M A ask Q Ex s:=bc (wpAny_askSetting h)
theorem t_(e:t=t')(h:bO M A t' Q Ex s):bO M A t Q Ex s:=e▸h
theorem kR(h:dV M A c R s)(d:∀r s,R r s->R' r s):dV M A c R' s:=⟨h.1,λa p b x h1=>wpCode_mono d (h.2 a p b x h1)⟩
theorem BP(h1:oY Γ.code=true)(h2:OkB Γ):OkB (Γ.enter c h p):=λx hx=>by
 rcases bE.mp hx with rfl|hx
 ·exact h1
 ·exact h2 x hx
theorem Qy(b:dV M (A.mark h) c (λr s'=>match r with| .ok f=>Q f s'| .error e=>Ex e s') s)(T:h≠some byPass:=by intro x;cases x):
  bO M A (run c h) Q Ex s:=λd p a h1 h2=>by rw[Sem.wp_run];exact b.2 _ p rfl (a.enter c h p T) (BP h1 h2)
theorem Gm(h:dV M A c (λr s'=>match r with| .ok (.ret v)=>Q v s'| .ok _=>False| .error e=>Ex e s') s):bO M A (runValue c) Q Ex s:=
 λb p a h1 h2=>by rw[Sem.wp_runValue];exact h.2 _ p rfl (a.enter c none p (by intro x;injection x)) (BP h1 h2)
theorem sI(h:dV M A (.call f ⟨pos,kw⟩) (λr s'=>match r with| .ok (.ret v)=>Q v s'| .ok _=>False| .error e=>Ex e s') s):bO M A (call f pos kw) Q Ex s:=Gm h
theorem gH(b:oY c=true)(h:bO M (A.under c) (M.den c) (λa s'=>match a with| .done f=>R (.ok f) s'| .again g=>g.quiet=true/\dV M A g R s') (λe s'=>R (.error e) s') s):dV M A c R s:=
 ⟨b,λi p j x h1=>by
  rewrite[wpCode_iff_wp];erw[aj j,<-vI M i _ (λa k s' d=>?_) (λ_ _ _ d=>d) p s (h i p (j▸x.in) (j▸b) h1)]
  induction a using PySem.Fin.casesOn with
  |done f=>exact d
  |again g=>exact⟨d.1,d.2.2 (i.goto g) k rfl (x.goto g) h1⟩⟩
theorem OS(g:c.quiet=true)(d:oY c=true)(I:Nat->Shared->Prop)(t:∀n s,I n s->bO M (A.under c) (M.den c) (λa s'=>match a with| .done f=>R (.ok f) s'| .again b=>(b=c/\∃m,m<n/\I m s')\/(b.quiet=true/\dV M A b R s')) (λe s'=>R (.error e) s') s)(n:Nat)(h:I n s):dV M A c R s:=by
 induction n using Nat.strongRecOn generalizing s with
 |ind n i=>
  refine gH d (p_mono (t n s h) (λa s' hf=>?_) λ_ _ j=>j)
  induction a using PySem.Fin.casesOn with
  |done f=>exact hf
  |again b=>
   rcases hf with⟨rfl,m,hm,hI⟩|hf
   ·exact⟨g,i m hm hI⟩
   ·exact hf
def oz(M:Model)(A:Around)(au:mA)(Ex:Value->Shared->Prop):Value->Shared->Prop:=λx s'=>bO M A (do
  if(<-field x 1) == .none then yV "frame.own-activation:exception-without-traceback"
  setFlight x au.frame) (λ_ Cy=>Ex x Cy) Ex s'
theorem wx(a:dV M (A.mark h) c (λr s'=>match r with| .ok f=>Q f s'| .error e=>oz M A au Ex e s') s)(T:h≠some byPass:=by intro x;cases x):
  bO M A (runOwn c au h) Q Ex s:=by
 exact pD (Qy a T)
def kG(M:Model)(A:Around)(au:mA)(Ex:Value->Shared->Prop):Value->Shared->Prop:=λx s'=>bO M A (noteFrame x au) (λ_ Cy=>Ex x Cy) Ex s'
theorem tK(h:bO M A m Q (kG M A au Ex) s):bO M A (m.onRaise λx=>do noteFrame x au;pb x) Q Ex s:=
 pD (p_mono h (λ_ _ q=>q) λ_ _ a=>az (p_mono a (λ_ _ e=>bc (wpAny_theTreesLotGoes e)) λ_ _ e=>e))
end
theorem yc(h:Q [] s):bO M A (spliced (backTo pos (starEach [] au))) Q Ex s:=bc (wpAny_items_nil h)
theorem qq(h:bO M A (eval e au) (λv b=>bO M A (spliced (backTo pos (starEach rest au))) (λvs c=>Q (v::vs) c) Ex b) Ex s)(a:starEach (e::rest) au=(false,eval e au)::starEach rest au):bO M A (spliced (backTo pos (starEach (e::rest) au))) Q Ex s:=by
 erw[aj a];show bO M A (do let v<-eval e au;let vs<-holding [v] (spliced (backTo pos (starEach rest au)));pure (v::vs)) Q Ex s;exact az (p_mono h (λv b f=>az (bK (p_mono f (λvs c d=>bj d) λ_ _ x=>x))) λ_ _ x=>x)
theorem HX{l op r pos}(h:bO M A (eval l au) (λa d=>bO M A (eval r au) (λb c=>bO M A (binaryOp op a b) Q Ex c) Ex d) Ex s):bO M A (eval (.BinOp l op r pos) au) Q Ex s:=by
 exact az (p_mono h (λa d f=>az (bK (p_mono f (λb c e=>az (bz (pJ e))) λ_ _ x=>x))) λ_ _ x=>x)
theorem zX{l op r pos}(h:bO M A (eval l au) (λa d=>bO M A (eval r au) (λb c=>bO M A (compareOp op a b) Q Ex c) Ex d) Ex s)(e:AX op r=false):
  bO M A (eval (.Compare l [op] [r] pos) au) Q Ex s:=by
 rewrite[eval_Compare1];erw[aj (markedBehindIn_of_false e),<-az (p_mono h (λa d g=>az (bK (p_mono g (λb c f=>az (bz (pJ f))) λ_ _ x=>x))) λ_ _ x=>x)]
theorem ou{l op r pos whole}(h:bO M A (eval l au) (λa e=>bO M A (eval r au) (λb d=>bO M A (compareOp op a b) (λc i=>bO M A (truthy c) Q Ex i) Ex d) Ex e) Ex s)(f:AX op r=false):
  bO M A (isTrue (.Compare l [op] [r] pos) au whole) Q Ex s:=by
 rewrite[isTrue_Compare1];erw[aj (markedBehindIn_of_false f),<-az (p_mono h (λa e j=>az (bK (p_mono j (λb d g=>az (bz (az (pJ (p_mono g (λc i o=>bK o) λ_ _ x=>x))))) λ_ _ x=>x))) λ_ _ x=>x)]
theorem BZ{op x pos}(h:bO M A (eval x au) (λv b=>bO M A (unaryOp op v) Q Ex b) Ex s):bO M A (eval (.UnaryOp op x pos) au) Q Ex s:=by
 exact az (p_mono h (λv b c=>az (bz (bK c))) λ_ _ x=>x)
theorem Pn{test body orelse pos}(h:bO M A (isTrue test au (eval test au)) (λc a=>if c then bO M A (eval body au) Q Ex a else bO M A (eval orelse au) Q Ex a) Ex s):bO M A (eval (.IfExp test body orelse pos) au) Q Ex s:=by
 refine az (p_mono h (λc a e=>?_) λ_ _ x=>x)
 induction c using tW<;>exact e
theorem zA{test body orelse pos whole}(h:bO M A (isTrue test au (eval test au)) (λc a=>if c then bO M A (isTrue body au (eval body au)) Q Ex a else bO M A (isTrue orelse au (eval orelse au)) Q Ex a) Ex s):
  bO M A (isTrue (.IfExp test body orelse pos) au whole) Q Ex s:=by
 refine az (p_mono h (λc a e=>?_) λ_ _ x=>x)
 induction c using tW<;>exact e
theorem Cf{x pos whole}(h:bO M A (isTrue x au (eval x au)) (λc s'=>Q (!c) s') Ex s):bO M A (isTrue (.UnaryOp .Not x pos) au whole) Q Ex s:=by
 exact az (p_mono h (λc s' a=>bj a) λ_ _ x=>x)
theorem sZ(h:bO M A whole (λv b=>bO M A (truthy v) Q Ex b) Ex s)(a:isTrue e au whole=(do let v<-whole;standAt e.pos;holding [v] (truthy v))):bO M A (isTrue e au whole) Q Ex s:=by
 erw[aj a,<-az (p_mono h (λv b c=>az (bz (bK c))) λ_ _ x=>x)]
theorem Ck{G4 GX rest pos}(h:bO M A (eval G4 au) (λv b=>bO M A (truthy v) (λc a=>if c then bO M A (eval (.BoolOp .And (GX::rest) pos) au) Q Ex a else Q v a) Ex b) Ex s):
  bO M A (eval (.BoolOp .And (G4::GX::rest) pos) au) Q Ex s:=by
 show bO M A (do
  let v<-eval G4 au
  standAt pos
  let c<-holding [v] (truthy v)
  match BoolOp.And,c with
  | .And,false| .Or,true=>pure v
  |_,_=>boolOp pos .And (eval GX au::evalEach rest au)) Q Ex s
 refine az (p_mono h (λv b d=>az (bz (az (bK (p_mono d (λc a e=>?_) λ_ _ x=>x))))) λ_ _ x=>x)
 induction c using tW with
 |false=>exact bj e
 |true=>exact e
theorem EJ{G4 GX rest pos}(h:bO M A (eval G4 au) (λv b=>bO M A (truthy v) (λc a=>if c then Q v a else bO M A (eval (.BoolOp .Or (GX::rest) pos) au) Q Ex a) Ex b) Ex s):
  bO M A (eval (.BoolOp .Or (G4::GX::rest) pos) au) Q Ex s:=by
 show bO M A (do
  let v<-eval G4 au
  standAt pos
  let c<-holding [v] (truthy v)
  match BoolOp.Or,c with
  | .And,false| .Or,true=>pure v
  |_,_=>boolOp pos .Or (eval GX au::evalEach rest au)) Q Ex s
 refine az (p_mono h (λv b d=>az (bz (az (bK (p_mono d (λc a e=>?_) λ_ _ x=>x))))) λ_ _ x=>x)
 induction c using tW with
 |false=>exact e
 |true=>exact bj e
theorem Cr{x rest pos whole}(h:bO M A (isTrue x au (eval x au)) (λc s'=>if c then bO M A (isTrue (.BoolOp .And rest pos) au whole) Q Ex s' else Q false s') Ex s):
  bO M A (isTrue (.BoolOp .And (x::rest) pos) au whole) Q Ex s:=by
 show bO M A (do
  match BoolOp.And,<-isTrue x au (eval x au) with
  | .And,false=>pure false
  | .Or,true=>pure true
  |_,_=>allTrue .And rest au) Q Ex s
 refine az (p_mono h (λc s' a=>?_) λ_ _ x=>x)
 induction c using tW with
 |false=>exact bj a
 |true=>exact a
theorem DU{x rest pos whole}(h:bO M A (isTrue x au (eval x au)) (λc s'=>if c then Q true s' else bO M A (isTrue (.BoolOp .Or rest pos) au whole) Q Ex s') Ex s):
  bO M A (isTrue (.BoolOp .Or (x::rest) pos) au whole) Q Ex s:=by
 show bO M A (do
  match BoolOp.Or,<-isTrue x au (eval x au) with
  | .And,false=>pure false
  | .Or,true=>pure true
  |_,_=>allTrue .Or rest au) Q Ex s
 refine az (p_mono h (λc s' a=>?_) λ_ _ x=>x)
 induction c using tW with
 |false=>exact a
 |true=>exact bj a
theorem SM(h:bO M A (spliced (backTo pos (starEach elts au))) (λvs b=>vs.length<=iq/\Q (.ref b.heap.objs.size) {b with heap:=b.heap.push {cls:=.type "list",data:=.seq vs.toArray}}) Ex s):
  bO M A (eval (.List elts pos) au) Q Ex s:=by
 exact az (bz (az (p_mono h (λvs b c=>bc (wpAny_newObj_type c.2 (by show vs.toArray.size<=iq;erw[aj kO,<-c.1]))) λ_ _ x=>x)))
theorem O3(h:bO M A (spliced (backTo pos (starEach elts au))) (λvs b=>vs.length<=iq/\Q (.ref b.heap.objs.size) {b with heap:=b.heap.push {cls:=.type "tuple",data:=.seq vs.toArray}}) Ex s):
  bO M A (eval (.Tuple elts k pos) au) Q Ex s:=by
 exact az (bz (az (p_mono h (λvs b c=>bc (wpAny_newObj_type c.2 (by show vs.toArray.size<=iq;erw[aj kO,<-c.1]))) λ_ _ x=>x)))
theorem Iu(h:bO M A (evalPart lower au) (λl b=>bO M A (evalPart upper au) (λu c=>Q (.ref c.heap.objs.size) {c with heap:=c.heap.push {cls:=.type "slice",data:=.fields #[l,u,.none]}}) Ex b) Ex s):
  bO M A (eval (.Slice lower upper none p) au) Q Ex s:=by
 erw[<-az (p_mono h (λl b a=>az (bK (p_mono a (λu c e=>az (bK (bj ?_))) λ_ _ x=>x))) λ_ _ x=>x),<-bc (wpAny_newObj_type e)]
theorem s7{value slice pos}(h:bO M A (eval value au) (λo b=>bO M A (eval slice au) (λi c=>bO M A (subscriptTail value slice o i) Q Ex c) Ex b) Ex s):
  bO M A (eval (.Subscript value slice pos) au) Q Ex s:=by
 exact az (p_mono h (λo b a=>az (bK (p_mono a (λi c e=>az (bz e)) λ_ _ x=>x))) λ_ _ x=>x)
theorem Ej(h:bO (model af w) A (eval value au) (λo b=>bO (model af w) A (getAttr o attr true) Q Ex b) Ex s)(a:tN value attr au (eval value au)=eval value au):bO (model af w) A (eval (.Attribute value attr pos) au) Q Ex s:=by
 show bO _ A (do let o<-tN value attr au (eval value au);standAt pos.atName;let r<-holding [o] (getAttr o attr true);letTemporaryGo value o r;pure r) Q Ex s;erw[aj a,<-az (p_mono h (λo b c=>az (bz (az (bK (p_mono c (λr d e=>az (bc (wpAny_letTemporaryGo (bj e)))) λ_ _ x=>x))))) λ_ _ x=>x)]
end
theorem RK(h:bO M A m Q Ex s):bO M A (m.keep vs) Q Ex s:=λa p x h1 h2=>by rw[Sem.wp_keep];exact h a p x h1 h2
theorem Gr(t:args.any (·.1)=false)(h:bO M A (spliced args) (λvs s'=>Q ⟨vs,[]⟩ s') Ex s):bO M A (evalArgs f true args []) Q Ex s:=by
 induction args using lcs with
 |nil=>
  unfold evalArgs;erw[<-az (p_mono h (λvs s' c=>?_) λ_ _ x=>x),<-az (bj (bK ?_)),<-az (bj (az (bj (bj c))))]
 |cons a r=>
  rcases a with⟨b,x⟩
  induction b using tW with
  |true=>injection t
  |false=>
   unfold evalArgs;erw[<-az (p_mono h (λvs s' c=>?_) λ_ _ x=>x),bK,<-az (bj (az (bj (bj c))))]
def vp(M:Model)(A:Around)(f:Value)(Ex:Value->Shared->Prop)(s:Shared):Prop:=∃k,(k=Keeper.frame\/k=Keeper.machine)/\∀Q:Keeper->Shared->Prop,Q k s->bP M A (keeperOf f) Q Ex s
theorem gJ{id:String}:vp M A (.builtin id) Ex s:=⟨.machine,.inr rfl,λ_ h=>wpAny_pure h⟩
theorem kA:vp M A (.type T) Ex s:=⟨.machine,.inr rfl,λ_ h=>wpAny_pure h⟩
theorem Cj{K:fq}(c:IF K f=true)(X:K.In s.heap):vp M A f Ex s:=by
 erw[ay (looks_keep (M:=M) c X),(k a b),<-⟨k,a,λQ h=>b.here h⟩]
theorem aaz{P:α->Prop}[Decidable c](h1:P a)(h2:P b):P (if c then a else b):=by split<;>assumption
theorem AQ(e:args.any (·.1)=false)(h:bO M A (spliced args) (λvs b=>vp M A f Ex b/\bO M A (call f (first++vs)) Q Ex b) Ex s):bO M A (callWith pos f first args []) Q Ex s:=by
 unfold callWith;erw[<-az (bK (Gr e (p_mono h (λvs b c=>az (bz ?_)) λ_ _ x=>x))),aD c];clear c;erw[(i c),ay i,(k d L),aj (show(args.any (·.1) ||([]:List (Option Str×Sem Value)).any (·.1.isNone))=false by rw[e];rfl),<-az (bc (L _ ?_))];have a:∀{t:Sem Value},bO M A t Q Ex b->bO M A (t>>= λr=>holding [r] point>>= λ_=>pure r) Q Ex b:=
  λg=>az (p_mono g (λr j hr=>az (bK (Iy (bj hr)))) λ_ _ x=>x)
 have marked mk:bO M A (callMarked mk f (first++vs) []) Q Ex b:=by unfold callMarked;exact RK c
 rcases d with rfl|rfl<;>dsimp only<;>first|exact a c|exact aaz (P:=λt=>bO M A t Q Ex b) (a c) (a (marked _))
theorem xw(h:(starEach es au).any (·.1)=false):(backTo pos (starEach es au)).any (·.1)=false:=by
 unfold backTo;erw[aj List.any_map,<-h]
theorem jm(t:(starEach args au).any (·.1)=false)(h:bO M A (eval (.Name x np) au) (λf b=>bO M A (spliced (backTo pos (starEach args au))) (λvs c=>vp M A f Ex c/\bO M A (call f vs) Q Ex c) Ex b) Ex s):
  bO M A (eval (.Call (.Name x np) args [] pos) au) Q Ex s:=by
 exact az (p_mono h (λf b a=>AQ (xw t) a) λ_ _ x=>x)
theorem CN(t:(starEach args au).any (·.1)=false)(j:tN o name au (eval o au)=eval o au)(l:args.length<20)(hl:(apos.endLine==pos.line)=true)(h:bO M A (eval o au) (λb d=>∀p,bO M A (getMethod b name p) (λa c=>bO M A (spliced (backTo pos (starEach args au))) (λvs i=>vp M A a.1 Ex i/\bO M A (call a.1 (a.2++vs)) Q Ex i) Ex c) Ex d) Ex s):
  bO M A (eval (.Call (.Attribute o name apos) args [] pos) au) Q Ex s:=by
 show bO M A (do let b<-tN o name au (eval o au);standAt apos.atName;methodCall o name apos pos au b (args.length+([]).length) (backTo pos (starEach args au)) (backToKw pos (keywordEach [] au))) Q Ex s;erw[aj j,<-az (p_mono h (λb d m=>az (bz ?_)) λ_ _ x=>x)];have g:methodCallForm (args.length+([]:List Keyword).length) (backTo pos (starEach args au)) (backToKw pos (keywordEach [] au))=true:=by
  have h1:(backTo pos (starEach args au)).all (!·.1)=true:=by
   rw[cJ];intro x e;have:=y9.mp (xw t) x e
   simpa using this
  unfold methodCallForm;erw[aj h1];show(true&&true&&decide (args.length+0+0<30))=true
  simp;exact P6 l rfl
 unfold methodCall calleeOf methodCallPos;erw[aj g,aj hl,<-az (bK (p_mono (m _) (λa c k=>?_) λ_ _ x=>x))];rcases a with⟨f,first⟩
 erw[<-az (bj ?_),<-AQ (xw t) k]
theorem Js[Decidable c](h:bO M A (k ()) Q Ex s):bO M A (if c then(standAt pos>>= k) else k ()) Q Ex s:=by
 split
 ·exact az (bz h)
 ·exact h
def BX(M:Model)(A:Around)(Ex:Value->Shared->Prop)(use:Option (Value->Sem Unit))(Q:Value->Shared->Prop)(cL:Value)(C:Addr)(r:Dy)(s':Shared):Prop:=
 match r,use with
 | .ok _,none=>∃m,s'.heap.Ns C m/\∀h',eo C s'.heap h'->Q cL {s' with heap:=h'}
 | .ok _,some u=>bO M A (u cL) (λ_ Cy=>∃m,Cy.heap.Ns C m/\∀h',eo C Cy.heap h'->Q .none {Cy with heap:=h'}) Ex s'
 | .error _,_=>False
theorem SP(J:clausesOf e=g::gs)(C:∀x,gG g.iter au x=pure x)(F:closureFor scope au=pure cl)(w:scope.kind=.function)(U:∀x∈scope.names,x.2=.local->scope.names.lookup x.1=some .local)(h:bO M A first (λx t=>bO M A (pyIter x) (λp q=>bO M A Tu (λn o=>bO M A (newFunctionEnv scope au.globals cl [] au.qual none .none (some au)) (λd v=>
    dV M A (.compStart e 0 p n {d with scope:=relabel scope au}) (BX M A Ex use Q n d.locals) v) Ex o) Ex q) Ex t) Ex s):
  bO M A (comprehension e scope au pos Tu false first use) Q Ex s:=by
 unfold comprehension;erw[aj F,aj J];refine az (p_mono h (λx t E=>az (bz (az (t_ (C x) (bj (az (bK (p_mono E (λp q D=>
  Js (az (p_mono D (λn o z=>az (bj (az (p_mono z (λd v G=>?_) λ_ _ a=>a)))) λ_ _ a=>a)))
   λ_ _ a=>a)))))))) λ_ _ a=>a)
 dsimp only;have k:∀x∈(scope.names.filter λx=>(x.2== .local||x.2== .cell) &&x.1 !=(".0":Str)).reverse,x.2=.local->
   pd {d with scope:=relabel scope au} x.1=some .local:=λx i hl=>lookup_relabel_local (U x (List.mem_filter.mp (List.mem_reverse.mp i)).1 hl)
 have j:∀x∈(scope.names.filter λx=>(x.2== .local||x.2== .cell) &&x.1 !=(".0":Str)).reverse.drop 1++(scope.names.filter λx=>(x.2== .local||x.2== .cell) &&x.1 !=(".0":Str)).reverse.take 1,
   x.2=.local->pd {d with scope:=relabel scope au} x.1=some .local:=λx i hl=>by
  rcases cC.mp i with h1|h1
  ·exact k x (JL h1) hl
  ·exact k x (mB h1) hl
 refine bK (az (BI (bK (Qy (kR G λr y hr=>?_)))))
 induction r using Except.casesOn with
 |ok f=>
  induction use using tU with
  |none=>
   erw[ay hr];clear hr;erw[(m l hr),<-bc (wpAny_bind (wpAny_holding (wpAny_comp_letGo w _ y m k l λa B _ c=>wpAny_pure (hr a c))))]
  |some u=>
   erw[<-az (FX (az (bK (p_mono hr (λ_ H b=>?_) λ_ _ a=>a)))),ay b];clear b;erw[(m l b),<-bc (wpAny_bind (wpAny_comp_letGo w _ H m j l λa B _ c=>wpAny_pure (b a c)))]
 |error x=>induction use using tU<;>exact hr.elim
theorem yT(h:Q true s):
  bO M A (forIn ([]:List di) true λc r=>if r=true then do let ok<-isTrue c au (eval c au);pure (cw ok) else pure (cw r)) Q Ex s:=bj h
theorem DN(h:bO M A (isTrue c au (eval c au)) Q Ex s):
  bO M A (forIn [c] true λc r=>if r=true then do let ok<-isTrue c au (eval c au);pure (cw ok) else pure (cw r)) Q Ex s:=by
 simp only[Bt,List.forIn_nil,if_true];exact az (az (p_mono h (λb d a=>bj (bj a)) λ_ _ x=>x))
section
variable{R:Dy->Shared->Prop}
theorem Ep(I:Nat->Shared->Prop)(t:∀n s,I n s->bO (model af w) A (pyNext it) (λr g=>match r with
   |none=>R (.ok .next) g
   |some v=>bO (model af w) A (assign (.Name x px) au v) (λ_ l=>
     bO (model af w) A (forIn ifs true λc r=>if r=true then do let o<-isTrue c au (eval c au);pure (cw o) else pure (cw r)) (λo i=>
      if o=true then bO (model af w) A (eval elt au) (λx j=>
       bO (model af w) A (call (.builtin "list.append") [cL,x]) (λ_ N=>∃m,m<n/\I m N) (λ_ _=>False) j) (λ_ _=>False) i
      else ∃m,m<n/\I m i) (λ_ _=>False) l) (λ_ _=>False) g) (λ_ _=>False) s)(n:Nat)(h:I n s):dV (model af w) A (.compLoop (.ListComp elt [⟨.Name x px,iter,ifs,0⟩] scope pos) 0 it cL au) R s:=by
 have b:∀{e:Value} {d:Shared},(λ_ _=>False) e d->kG (model af w) A au (λe d=>R (.error e) d) e d:=λh=>h.elim;refine OS rfl rfl I (λn s p=>?_) n h;show bO _ A ((compTurn (.ListComp elt [⟨.Name x px,iter,ifs,0⟩] scope pos) 0 it cL au).onRaise (λx=>do noteFrame x au;pb x)) _ _ s;erw[tK];rw[compTurn_list];refine az (bz (az (p_mono (t n s p) (λr g k=>?_) λ_ _ a=>b a)))
 induction r using tU with
 |none=>exact bj k
 |some v=>
  erw[<-az (t_ (show letOwnedTupleGo (.Name x px) it v=pure () from rfl) (bj ?_)),<-az (p_mono k (λ_ l q=>az (p_mono q (λo i f=>?_) λ_ _ a=>b a)) λ_ _ a=>b a)]
  induction o using tW with
  |true=>
   simp only[if_true] at f⊢;exact az (az (p_mono f (λx j G=>az (p_mono G (λ_ N T=>bj (bj (.inl ⟨rfl,T⟩))) λ_ _ a=>b a)) λ_ _ a=>b a))
  |false=>
   simp only[jV,if_false] at f⊢;exact bj (.inl ⟨rfl,f⟩)
theorem CR(h:∀{Ex:Value->Shared->Prop} {Q:Value->Shared->Prop},Q it s->bP (model af w) A (pyIter it) Q Ex s)(h0:dV (model af w) A (.compLoop (.ListComp elt [⟨target,iter,ifs,0⟩] scope pos) 0 it cL au) R s):dV (model af w) A (.compStart (.ListComp elt [⟨target,iter,ifs,0⟩] scope pos) 0 it cL au) R s:=by
 erw[gH rfl];show bO _ _ ((compStart (.ListComp elt [⟨target,iter,ifs,0⟩] scope pos) 0 it cL au).onRaise (λx=>do noteFrame x au;standAt theWindowsPlace)) _ _ s;erw[pD];unfold compStart;refine az (Ww ?_)
 split
 ·exact bj ⟨rfl,h0⟩
 ·erw[<-az (FX ?_),<-az (bz (az (bc ?_))),<-h (bj ⟨rfl,h0⟩)]
end
section
variable{Q:Flow->Shared->Prop}
theorem oq(h:Q .next s):bO M A (execs [] au) Q Ex s:=bj h
theorem wZ{st:jD}(h:bO M A (exec st au) (λf b=>match f with| .next=>bO M A (execs rest au) Q Ex b|f=>Q f b) Ex s):bO M A (execs (st::rest) au) Q Ex s:=by
 rw[execs_cons];refine az (p_mono h (λf b c=>?_) λ_ _ x=>x)
 induction f using Flow.casesOn with
 |next=>exact c
 |_=>exact bj c
theorem Tw(h:Q .next s):bO M A (exec (.Pass pos) au) Q Ex s:=az (bz (bj h))
theorem OC(h:Q .brk s):bO M A (exec (.Break pos) au) Q Ex s:=az (bz (bj h))
theorem Bn(h:Q (.ret .none) s):bO M A (exec (.Return none pos) au) Q Ex s:=by
 rw[exec_Return_none];exact az (bz (bj h))
theorem MM(h:bO M A (eval e au) (λv b=>Q (.ret v) b) Ex s):bO M A (exec (.Return (some e) pos) au) Q Ex s:=by
 rw[exec_Return_some];exact az (bz (az (p_mono h (λv b c=>bj c) λ_ _ x=>x)))
theorem aaN(h:bO M A (isTrue test au (eval test au)) (λc b=>if c=true then bO M A (execs body au) Q Ex b else bO M A (execs orelse au) Q Ex b) Ex s):bO M A (exec (.If test body orelse pos) au) Q Ex s:=by
 rw[exec_If];refine az (bz (az (p_mono h (λc b a=>?_) λ_ _ x=>x)))
 induction c using tW<;>exact a
theorem Bg(a:swapsWith value (some (.Name x px)) pos.line au=pure false)(h:bO M A (eval value au) (λv b=>bP M A (storeName au x v) (λ_ d=>Q .next d) Ex b) Ex s):bO M A (exec (.Assign [.Name x px] value pos) au) Q Ex s:=by
 erw[aj (exec_Assign_Name _ _ _ _ _ a),<-az (bz (az (p_mono h (λv b c=>bc ?_) λ_ _ x=>x)))];have:=wpAny_assign_Name (pos:=px) c;have e:=wpAny_bind (wpAny_mono this (λ_ _ q=>wpAny_pure q) λ_ _ q=>q);exact e
theorem Bq(a:swapsWith value (some (.Name x px)) pos.line au=pure true)(h:bO M A (evalThenUse value au (assign (.Name x px) au)) (λ_ b=>Q .next b) Ex s):bO M A (exec (.Assign [.Name x px] value pos) au) Q Ex s:=by
 erw[aj (exec_Assign_Name_used _ _ _ _ a),<-az (bz (az (p_mono h (λv b c=>bj c) λ_ _ x=>x)))]
end
section
variable{Q:Flow->Shared->Prop}
theorem UT(c:interactive au=false)(a:swapsWith e none pos.line au=pure false)(h:bO (model af w) A (eval e au) (λ_ b=>Q .next b) Ex s):bO (model af w) A (exec (.Expr e pos) au) Q Ex s:=by
 erw[aj (exec_Expr _ _ _ c a),<-az (bz (az (p_mono h (λv b d=>bc ?_) λ_ _ x=>x))),<-wpAny_dropValue d]
theorem vy(e:swapsWith value (some (.Attribute o f px)) pos.line au=pure false)(h:bO (model af w) A (eval value au) (λv b=>bO (model af w) A (eval o au) (λa c=>bO (model af w) A (setAttr a f v) (λ_ i=>Q .next i) Ex c) Ex b) Ex s):bO (model af w) A (exec (.Assign [.Attribute o f px] value pos) au) Q Ex s:=by
 rw[arm_exec_Assign];refine az (bz (az ?_));show bO (model af w) A (swapsWith value (some (.Attribute o f px)) pos.line au) _ Ex s;erw[aj e,bj,<-az (p_mono h (λv b j=>?_) λ_ _ x=>x),<-az (t_ (show swappedStores [.Attribute o f px] value au=pure none from rfl) (bj ?_))];show bO (model af w) A (assign (.Attribute o f px) au v>>= λ_=>pure Flow.next) Q Ex b;rw[arm_assign_Attribute];refine az (az (bK (p_mono j (λa c g=>az (bz (az (bK (p_mono g (λ_ i d=>xn (bj d)) λ_ _ x=>x))))) λ_ _ x=>x)))
theorem vh(g:swapsWith value (some (.Subscript o i px)) pos.line au=pure false)(h:bO (model af w) A (eval value au) (λv e=>bO (model af w) A (eval o au) (λb d=>bO (model af w) A (eval i au) (λiv c=>bO (model af w) A (setItem b iv v) (λ_ a=>Q .next a) Ex c) Ex d) Ex e) Ex s):bO (model af w) A (exec (.Assign [.Subscript o i px] value pos) au) Q Ex s:=by
 erw[aj (exec_Assign_Subscript _ _ _ _ _ g),<-az (bz (az (p_mono h (λv e k=>?_) λ_ _ x=>x)))];rw[assign_Subscript];refine az (az (bK (p_mono k (λb d j=>az (bK (p_mono j (λiv c f=>az (bz (az (bK (p_mono f (λ_ a G=>xn (bj G)) λ_ _ x=>x))))) λ_ _ x=>x))) λ_ _ x=>x)))
theorem xN(h:bO (model af w) A (loadName au x) (λo b=>bO (model af w) A (eval value au) (λv c=>bO (model af w) A (inplaceOp op o v) (λn i=>bP (model af w) A (storeName au x n) (λ_ a=>Q .next a) Ex i) Ex c) Ex b) Ex s):
  bO (model af w) A (exec (.AugAssign (.Name x px) op value pos) au) Q Ex s:=by
 rw[exec_AugAssign_Name];refine az (bz (az (p_mono h (λo b g=>az (bK (p_mono g (λv c f=>az (bz (az (pJ (p_mono f (λn i d=>bc ?_) λ_ _ x=>x))))) λ_ _ x=>x))) λ_ _ x=>x)));have:=wpAny_assign_Name (pos:=px) d;have e:=wpAny_bind (wpAny_mono this (λ_ _ q=>wpAny_pure q) λ_ _ q=>q);exact e
theorem q_(h:bO (model af w) A (eval o au) (λb e=>bO (model af w) A (getAttr b f true) (λa d=>bO (model af w) A (eval value au) (λv i=>bO (model af w) A (inplaceOp op a v) (λn c=>bO (model af w) A (setAttr b f n) (λ_ N=>Q .next N) Ex c) Ex i) Ex d) Ex e) Ex s):
  bO (model af w) A (exec (.AugAssign (.Attribute o f px) op value pos) au) Q Ex s:=by
 rw[arm_exec_AugAssign_2];erw[<-az (bz (az (p_mono h (λb e k=>?_) λ_ _ x=>x))),<-az (bK (az (bz (az (p_mono k (λa d j=>?_) λ_ _ x=>x))))),<-az (bK (p_mono j (λv i g=>?_) λ_ _ x=>x)),<-az (bz (pJ (p_mono g (λn c G=>?_) λ_ _ x=>x))),<-az (bz (az (bK (p_mono G (λ_ N T=>?_) λ_ _ x=>x)))),<-az (xn (bj T))]
theorem Ov(h:dV (model af w) A (.whileLoop test body orelse au) (λr s'=>match r with| .ok f=>Q f s'| .error e=>oz (model af w) A au Ex e s') s):
  bO (model af w) A (exec (.While test body orelse pos) au) Q Ex s:=by
 rw[exec_While];exact az (bz (wx h))
theorem Ny(a:∀x,gG iter au x=pure x)(h:bO (model af w) A (eval iter au) (λx b=>bP (model af w) A (pyIter x) (λi c=>dV (model af w) A (.forLoop target i body orelse au) (λr s'=>match r with| .ok f=>Q f s'| .error e=>oz (model af w) A au Ex e s') c) Ex b) Ex s):
  bO (model af w) A (exec (.For target iter body orelse pos) au) Q Ex s:=by
 rw[arm_exec_For];erw[<-az (bz (az (p_mono h (λx b g=>?_) λ_ _ x=>x))),<-az (t_ (a x) (bj (az (bz (az (bK (p_mono (bc g) (λi c d=>wx d) λ_ _ x=>x)))))))]
theorem MB(h:bO (model af w) A (isTrue test au (eval test au)) (λc g=>if c=true then bO (model af w) A (execs body au) (λf d=>match f with
   | .next| .cont=>dV (model af w) A (.whileLoop test body [] au) R d
   | .brk=>R (.ok .next) d
   | .ret v=>R (.ok (.ret v)) d) (kG (model af w) A au λe s'=>R (.error e) s') g else R (.ok .next) g) (kG (model af w) A au λe s'=>R (.error e) s') s):
  dV (model af w) A (.whileLoop test body [] au) R s:=by
 erw[gH rfl];show bO _ A ((whileTurn test body [] au).onRaise (λx=>do noteFrame x au;pb x)) _ _ s;erw[tK];unfold whileTurn;refine az (p_mono h (λc g b=>?_) λ_ _ x=>x)
 induction c using tW with
 |false=>
  simp only[jV,if_false] at b⊢;exact az (oq (bj b))
 |true=>
  simp only[if_true] at b⊢;refine az (p_mono b (λf d a=>?_) λ_ _ x=>x)
  induction f using Flow.casesOn with
  |next=>exact bj ⟨rfl,a⟩
  |cont=>exact bj ⟨rfl,a⟩
  |brk=>exact bj a
  |ret v=>exact bj a
theorem CV(h:R (.ok .next) s):dV (model af w) A (.block [] au) R s:=by
 erw[gH rfl];show bO _ A ((execs [] au).onRaise (λx=>do noteFrame x au;pb x) >>= λf=>pure (Fin.done f)) _ _ s;exact az (tK (oq (bj h)))
theorem LC(h:bP (model af w) A (pyNext it) (λr b=>match r with
   |none=>R (.ok .next) b
   |some v=>bP (model af w) A (storeName au x v) (λ_ a=>bO (model af w) A (execs body au) (λf i=>match f with
    | .next| .cont=>dV (model af w) A (.forLoop (.Name x px) it body [] au) R i
    | .brk=>R (.ok .next) i
    | .ret v=>R (.ok (.ret v)) i) (kG (model af w) A au λe s'=>R (.error e) s') a) (kG (model af w) A au λe s'=>R (.error e) s') b) (λ_ _=>False) s):
  dV (model af w) A (.forLoop (.Name x px) it body [] au) R s:=by
 erw[gH rfl];show bO _ A ((forTurn (.Name x px) it body [] au).onRaise (λx=>do noteFrame x au;pb x)) _ _ s;erw[tK];unfold forTurn;refine az (bz (az (pD (p_mono (bc h) (λr b c=>?_) λ_ _ x=>x.elim))))
 induction r using tU with
 |none=>exact bj ⟨rfl,CV c⟩
 |some v=>
  erw[<-az (t_ (show letOwnedTupleGo (.Name x px) it v=pure () from rfl) (bj ?_)),<-az (p_mono (bc (wpAny_assign_Name c)) (λ_ a d=>?_) λ_ _ x=>x),<-az (p_mono d (λf i o=>?_) λ_ _ x=>x)]
  induction f using Flow.casesOn with
  |next=>exact bj ⟨rfl,o⟩
  |cont=>exact bj ⟨rfl,o⟩
  |brk=>exact bj o
  |ret v=>exact bj o
end
variable{dZ:Heap}
variable{l:List mA}
noncomputable def Ax:Addr:=128
def Jo(cls:Value)(vs:Array Value):Prop:=∃cx,vs[2]?=some cx/\(cls≠.ref Ax->cx=.none)
theorem Jo.abC(x:Jo cls vs)(v:Value):Jo cls (vs.setIfInBounds 1 v):=by
 erw[ay x,(c h q),<-⟨c,by erw[aj (Array.getElem?_setIfInBounds_ne (dc rfl)),<-h],q⟩]
def aaT(h dZ:Heap)(e:Addr)(cls fl:Value):Prop:=
 ∃oe vs T oT ts,h.get? e=some oe/\oe.cls=cls/\oe.data=.fields vs/\vs[1]?=some (.ref T)/\Jo cls vs/\dZ.get? T=none/\T≠e/\h.get? T=some oT/\oT.data=.fields ts/\ts[3]?=some fl
structure Way(dZ:Heap)(l:List mA)(e:Addr)(cls fl:Value)(h:Heap):Prop where
 stays:dZ.StaysIn h
 new:dZ.get? e=none
 Pl:h.FunFrames dZ l
 tr:aaT h dZ e cls fl
theorem Way.there(x:Way dZ l e cls fl h):∃o,h.get? e=some o/\o.cls=cls:=by
 erw[iS x.tr,(a _ _ _ _ b c _),<-⟨a,b,c⟩]
theorem Way.down(k:dZ.StaysIn B)(x:Way B l e cls fl h):Way dZ l e cls fl h:=by
 rcases x with⟨a,b,c,oe,vs,T,oT,ts,a1,a2,a3,a4,a5,a6,a7⟩
 exact⟨λb o q=>a b o (k b o q),yW k b,funFrames_base k c,oe,vs,T,oT,ts,a1,a2,a3,a4,a5,yW k a6,a7⟩
section
variable{outer:List mA}{L e:Addr}{cls fl:Value}
theorem kZ(f:Option Addr)(W:Way dZ l e cls fl s.heap)(q:∀d,Way dZ l e cls (f.elim .none λa=>rawInt a) d->s.heap.UpToSlots d->Q () {s with heap:=d}):bP M A (setFlight (.ref e) f) Q Ex s:=by
 rcases W with⟨f1,f2,f3,oe,v,T,oT,ts,he,hc,hd,h1,h2,YF,QU,hT,Ob,h3⟩
 have i:=(oA.mp h3).1;have c:∀g b,b≠T->(s.heap.update T g).get? b=s.heap.get? b:=λg b h=>hZ _ _ (aJ h);have plain:∀b o,s.heap.get? b=some o->(∀v,o.data≠.fields v)->b≠T:=λb o h y q=>by
  replace q:=q.symm;subst q;rw[hT] at h;injection h with h;subst h;exact y ts Ob
 unfold setFlight;erw[<-wpAny_bind (wpAny_field he hd h1 ?_),aj (if_pos (show(iz T !=ll)=true from by simp))];refine wpAny_setField hT Ob i (q _ ⟨λb o h=>(c _ b λq=>by replace q:=q.symm;subst q;rw[YF] at h;injection h).trans (f1 b o h),f2,f3.of_keeps λb o h y=>⟨o,(c _ b (plain b o h y)).trans h,rfl⟩,?_⟩
  λb o h y=>⟨o.slots,(c _ b (plain b o h y)).trans h⟩)
 exact⟨oe,v,T,_,_,(c _ e (aJ QU)).trans he,hc,hd,h1,h2,YF,QU,fg _ hT (JM (yX Ob _)),yX Ob _,by simp[i]⟩
theorem HN(K:A.frames=some (au::outer))(hl:s.heap.FunFrames dZ (au::outer))(G:au.frame=some L)(r:s.heap.get? e=some oe)(H:oe.cls=cls)(m:dZ.StaysIn s.heap)(f:dZ.get? e=none)(j:oe.data=.fields vs)(h2:Jo cls vs)(q:∀u,Way dZ (au::outer) e cls (rawInt L) u->s.heap.UpToSlots u->Q () {s with heap:=u}):
  bP M A (do let a<-frameOf au;let p<-entryPlaceOf L aaa;let b<-Dz head a .none (rawInt L) .none p;setField (.ref e) 1 b) Q Ex s:=by
 have F:=let⟨_,h,_⟩:=h2;(oA.mp h).1;have E:e∉(au::outer).filterMap (·.frame):=λl=>by
  erw[aD (hl.mem l),(_ J),ay J,(o i y)];rw[r] at i;injection i with i;subst i;exact y vs j
 refine wpAny_bind (wpAny_frameOf_fun K hl G λd I=>wpAny_bind (wpAny_entryPlaceOf λp D=>?_));unfold Dz newFields;refine wpAny_bind (wpAny_newObj_type ?_ (D.sizeOk5 _ _ _ _ _));have w:=(I.2.1 e E).trans r;generalize v:({cls:=.type "traceback",dict:=none,data:=.fields ([head,.ref L,.none,rawInt L,.none]++(if p.isEmpty then kP 6 ll else p)).toArray}:Obj)=O;have t:O.data=.fields ([head,.ref L,.none,rawInt L,.none]++(if p.isEmpty then kP 6 ll else p)).toArray:=by refine' c_ v ?_;rfl
 have n:O.isFreed=false:=by refine' c_ v ?_;rfl
 have B:=bB O w;have z:=ID (eQ w);have C:=yX j (·.setIfInBounds 1 (iz d.objs.size));have k:∀b o,b≠e->d.get? b=some o->((d.push O).update e (qZ (·.setIfInBounds 1 (iz d.objs.size)))).get? b=some o:=λb o c g=>(hZ _ _ (aJ c)).trans (bB O g);have plain:∀b o,s.heap.get? b=some o->(∀vs,o.data≠.fields vs)->b≠e:=λb o c y q=>by
  replace q:=q.symm;subst q;rw[r] at c;injection c with c;subst c;exact y vs j
 have x:dZ.StaysIn d:=λb o c=>(I.2.1 b λl=>by rw[(hl.mem l).1] at c;injection c).trans (m b o c);refine wpAny_setField B j (zo1 F) (q _ ⟨λb o c=>k b o (λq=>by replace q:=q.symm;subst q;rw[f] at c;injection c) (x b o c),f,hl.of_keeps λb o c y=>?_,?_⟩ λb o c y=>?_)
 ·erw[bf (I.2.2 b o c),(sl g),<-⟨_,k b _ (plain b o c y) g,rfl⟩]
 ·refine⟨_,_,d.objs.size,O,_,fg _ B (JM C),(Obj.cls_mapFields _ _).trans H,C,?_,?_,x.fresh,z,(hZ _ _ (aJ z)).trans (dw d n),t,?_⟩
  ·have h1:1<vs.size:=by exact zo1 F
   simp[h1]
  ·exact h2.abC _
  ·first|(simp;done)|(rcases D with rfl|⟨_,_,_,_,_,_,_,rfl⟩<;>simp)
 ·erw[bf (I.2.2 b o c),(sl g),<-⟨sl,k b _ (plain b o c y) g⟩]
structure sx(dZ:Heap)(l:List mA)(e:Addr)(cls:Value)(h:Heap):Prop where
 stays:dZ.StaysIn h
 new:dZ.get? e=none
 Pl:h.FunFrames dZ l
 obj:∃oe vs,h.get? e=some oe/\oe.cls=cls/\oe.data=.fields vs/\vs[1]?=some .none/\Jo cls vs
theorem sx.of(x:Heap.MadeExcOf h₀ h e cls args)(k:dZ.StaysIn h₀)(f:h₀.FunFrames dZ l):sx dZ l e cls h:=by
 erw[cY x.there,(t c a g),<-⟨λb o q=>x.keeps b o (k b o q),yW k x.new,f.of_keeps λb o d _=>⟨o,x.keeps b o d,rfl⟩,_,_,c,rfl,rfl,rfl,.none,rfl,λ_=>rfl⟩]
theorem sx.down(k:dZ.StaysIn B)(x:sx B l e cls h):sx dZ l e cls h:=
 ⟨λb o q=>x.stays b o (k b o q),yW k x.new,funFrames_base k x.Pl,x.obj⟩
theorem BV(J:A.frames=some (au::outer))(a:au.frame=some L)(W:sx dZ (au::outer) e cls s.heap)(q:∀h,Way dZ (au::outer) e cls (rawInt L) h->s.heap.UpToSlots h->Q () {s with heap:=h}):bP M A (noteFrame (.ref e) au) Q Ex s:=by
 rcases W with⟨k,n,f,oe,vs,he,hc,hd,h1,h2⟩
 unfold noteFrame;simp only[a];erw[<-wpAny_bind (wpAny_field he hd h1 ?_),aj (if_neg (dc rfl)),<-HN J f a he hc k n hd h2 q]
theorem we(J:A.frames=some (au::outer))(d:au.frame=some L)(W:Way dZ (au::outer) e cls .none s.heap)(q:∀c,Way dZ (au::outer) e cls (rawInt L) c->s.heap.UpToSlots c->Q () {s with heap:=c}):bP M A (noteFrame (.ref e) au) Q Ex s:=by
 rcases W with⟨f1,f2,f3,oe,v,T,oT,ts,he,hc,hd,h1,h2,YF,QU,hT,Ob,h3⟩
 unfold noteFrame;simp only[d];erw[<-wpAny_bind (wpAny_field he hd h1 ?_),aj (if_pos (show(iz T !=ll)=true from by simp)),<-wpAny_bind (wpAny_field hT Ob h3 ?_),aj (if_neg (show ¬((ll==rawInt L)=true) from by simp[rawInt]))];have a:∀g b,b≠T->(s.heap.update T g).get? b=s.heap.get? b:=λg b h=>hZ _ _ (aJ h);have plain:∀b o,s.heap.get? b=some o->(∀v,o.data≠.fields v)->b≠T:=λb o h y q=>by
  replace q:=q.symm;subst q;rw[hT] at h;injection h with h;subst h;exact y ts Ob
 refine wpAny_bind (wpAny_setField hT Ob (oA.mp h3).1 ?_);refine HN J (f3.of_keeps λb o h y=>⟨o,(a _ b (plain b o h y)).trans h,rfl⟩) d ((a _ e (aJ QU)).trans he) hc (λb o h=>(a _ b λq=>by replace q:=q.symm;subst q;rw[YF] at h;injection h).trans (f1 b o h)) f2 hd h2
  λc f k=>q c f λb o h y=>k b o ((a _ b (plain b o h y)).trans h) y
theorem tB(h:au.frame=some L)(W:Way dZ l e cls (rawInt L) s.heap)(q:Q () s):bP M A (noteFrame (.ref e) au) Q Ex s:=by
 rcases W with⟨f1,f2,f3,oe,vs,T,oT,ts,he,hc,hd,h1,h2,YF,QU,hT,Ob,h3⟩
 unfold noteFrame;simp only[h];erw[<-wpAny_bind (wpAny_field he hd h1 ?_),aj (if_pos (show(iz T !=ll)=true from by simp)),<-wpAny_bind (wpAny_field hT Ob h3 ?_),aj (if_pos (show(rawInt L==rawInt L)=true from by simp)),<-wpAny_pure q]
theorem Way.past(W:Way dZ (au::outer) e cls fl h):Way dZ outer e cls fl h:=⟨W.stays,W.new,W.Pl.2.2,W.tr⟩
theorem FH(J:A.frames=some (au::outer))(b:au.frame=some L)(W:sx dZ (au::outer) e cls s.heap)(q:∀h,Way dZ outer e cls .none h->s.heap.UpToSlots h->Q () {s with heap:=h}):bP M A (leaving au (.ref e)) Q Ex s:=by
 unfold leaving;exact wpAny_bind (BV J b W λh1 d a=>kZ none d λh2 c k=>q h2 c.past (a.trans k))
theorem JE(J:A.frames=some (au::outer))(b:au.frame=some L)(W:Way dZ (au::outer) e cls .none s.heap)(q:∀h,Way dZ outer e cls .none h->s.heap.UpToSlots h->Q () {s with heap:=h}):bP M A (leaving au (.ref e)) Q Ex s:=by
 unfold leaving;exact wpAny_bind (we J b W λh1 d a=>kZ none d λh2 c k=>q h2 c.past (a.trans k))
theorem FE(a:au.frame=some L)(W:Way dZ (au::outer) e cls (rawInt L) s.heap)(q:∀h,Way dZ outer e cls .none h->s.heap.UpToSlots h->Q () {s with heap:=h}):bP M A (leaving au (.ref e)) Q Ex s:=by
 unfold leaving;exact wpAny_bind (tB a W (kZ none W λh2 b k=>q h2 b.past k))
theorem Rv(W:Way dZ l e cls fl s.heap)(h:bP M A t Q Ex s):bP M A (do
  if(<-field (.ref e) 1) == .none then yV "frame.own-activation:exception-without-traceback"
  t) Q Ex s:=by
 rcases W with⟨f1,f2,f3,oe,vs,T,oT,ts,he,hc,hd,h1,_⟩
 erw[<-wpAny_bind (wpAny_field he hd h1 ?_),aj (if_neg (show ¬((iz T==ll)=true) from h_)),<-h]
end
inductive V where
 |none
 |bool (b:Bool)
 |int (i:Int)
 |bytes (b:List UInt8)
 |text
 |tup (vs:List V)
 |ref (a:Addr)
inductive MO where
 |list (vs:List V)
 |inst (C:Addr) (fs:List (Nat×V))
 |c9 (b:List UInt8)
abbrev Hp:=Addr->Option MO
abbrev Loc:=Nat->Option V
noncomputable def upd{α:Type}(f:Nat->Option α)(a:Nat)(x:α):Nat->Option α:=λb=>if b=a then some x else f b
theorem us:upd f a x a=some x:=if_pos rfl
theorem cX(f:Nat->Option α)(a:Nat)(x:α):upd f a x a=some x:=if_pos rfl
theorem dr(f:Nat->Option α)(x:α)(h:b≠a):upd f a x b=f b:=if_neg h
mutual
inductive cZ(h:Heap):Value->V->Prop
 |none:cZ h .none .none
 |bool (b:Bool):cZ h (.bool b) (.bool b)
 |int (i:Int) (t:Tok):cZ h (.int i t) (.int i)
 |bytes (b:Array UInt8) (t:Tok):cZ h (.bytes b t) (.bytes b.toList)
 |text (s:Str) (t:Tok):s.length<=10000->cZ h (.str s t) .text
 |tup {a:Addr} {aQ:List Value} {vs:List V}:q0 h a aQ.toArray->bU h aQ vs->cZ h (.ref a) (.tup vs)
 |ref (a:Addr):cZ h (.ref a) (.ref a)
inductive bU(h:Heap):List Value->List V->Prop
 |nil:bU h [] []
 |cons {v:Value} {x:V} {aQ:List Value} {vs:List V}:cZ h v x->bU h aQ vs->bU h (v::aQ) (x::vs)
end
def VR(h:Heap)(v:Value):V->Prop
 | .none=>v=.none
 | .bool b=>v=.bool b
 | .int i=>∃t,v=.int i t
 | .bytes l=>∃b t,v=.bytes b t/\b.toList=l
 | .text=>∃s t,v=.str s t/\s.length<=10000
 | .tup vs=>∃a aQ,v=.ref a/\q0 h a aQ.toArray/\bU h aQ vs
 | .ref a=>v=.ref a
theorem cZ.inv(r:cZ h v x):VR h v x:=by
 cases r with
 |none=>exact rfl
 |bool b=>exact rfl
 |int i t=>exact⟨t,rfl⟩
 |bytes b t=>exact⟨b,t,rfl,rfl⟩
 |text s t l=>exact⟨s,t,rfl,l⟩
 |tup a r=>exact⟨_,_,rfl,a,r⟩
 |ref a=>exact rfl
theorem bU.inv(r:bU h aQ (x::xs)):∃v vs,aQ=v::vs/\cZ h v x/\bU h vs xs:=by
 cases r with
 |cons a b=>exact⟨_,_,rfl,a,b⟩
theorem bU.Pa(r:bU h aQ []):aQ=[]:=by
 cases r;rfl
def dN(h h':Heap):Prop:=∀a items,q0 h a items->q0 h' a items
theorem bU.ind{M:List Value->List V->Prop}(n:M [] [])(c:∀v x d vs,cZ h v x->bU h d vs->M d vs->M (v::d) (x::vs))(r:bU h d vs):M d vs:=
 bU.rec (motive_1:=λ_ _ _=>True) trivial (λ_=>trivial) (λ_ _=>trivial) (λ_ _=>trivial) (λ_ _ _=>trivial) (λ_ _ _=>trivial) (λ_=>trivial) n (λa b _ i=>c _ _ _ _ a b i) r
theorem cZ.mono(k:dN h h')(r:cZ h v x):cZ h' v x:=
 cZ.rec .none .bool .int .bytes .text (λa _ i=>.tup (k _ _ a) i) .ref .nil (λ_ _ a b=>.cons a b) r
theorem bU.mono(k:dN h h')(r:bU h v x):bU h' v x:=r.ind .nil λ_ _ _ _ a _ i=>.cons (a.mono k) i
theorem bU.length(r:bU h a vs):a.length=vs.length:=r.ind (M:=λa vs=>a.length=vs.length) rfl λ_ _ _ _ _ _ i=>congrArg (· +1) i
theorem bU.append(q:bU h a x)(r:bU h b y):bU h (a++b) (x++y):=q.ind (M:=λa x=>bU h (a++b) (x++y)) r λ_ _ _ _ v _ i=>.cons v i
theorem bU.get{i:Nat}(r:bU h a vs):vs[i]?=some x->∃v,a[i]?=some v/\cZ h v x:=
 r.ind (M:=λa vs=>∀i,vs[i]?=some x->∃v,a[i]?=some v/\cZ h v x) (λi e=>absurd (List.getElem?_nil.symm.trans e) (λq=>nomatch q)) (λv _ _ _ q _ b i=>i.casesOn (λe=>⟨v,rfl,bV e▸q⟩) λi e=>b i e) i
theorem bU.take(n:Nat)(r:bU h a vs):bU h (a.take n) (vs.take n):=
 r.ind (M:=λa vs=>∀n,bU h (a.take n) (vs.take n)) (λn=>n.casesOn .nil λ_=>.nil) (λ_ _ _ _ q _ i n=>n.casesOn .nil λn=>.cons q (i n)) n
theorem bU.drop(n:Nat)(r:bU h a vs):bU h (a.drop n) (vs.drop n):=
 r.ind (M:=λa vs=>∀n,bU h (a.drop n) (vs.drop n)) (λn=>n.casesOn .nil λ_=>.nil) (λ_ _ _ _ q b i n=>n.casesOn (.cons q b) λn=>i n) n
theorem bU.set(n:Nat)(r:bU h c vs)(q:cZ h v x):bU h (c.set n v) (vs.set n x):=
 r.ind (M:=λc vs=>∀n,bU h (c.set n v) (vs.set n x)) (λ_=>.nil) (λ_ _ _ _ a b i n=>n.casesOn (.cons q b) λn=>.cons a (i n)) n
theorem bU.eraseIdx(n:Nat)(r:bU h c vs):bU h (c.eraseIdx n) (vs.eraseIdx n):=
 r.ind (M:=λc vs=>∀n,bU h (c.eraseIdx n) (vs.eraseIdx n)) (λ_=>.nil) (λ_ _ _ _ a b i n=>n.casesOn b λn=>.cons a (i n)) n
noncomputable def AT:List String:=["term","index","kind","data","parts","at","voters","learners","outgoing","learners_next","auto_leave","conf","to","frm","log_term","entries","commit","snapshot","reject","reject_hint","context","client","number","key","value","expect","offset"]
def atName(k:Nat):Str:=eP (AT.getD k "")
noncomputable def AM(fs:List (Nat×V))(k:Nat):Option V:=fs.lookup k
noncomputable def xD:List (Nat×V)->Nat->V->List (Nat×V)
 |[],k,v=>[(k,v)]
 |(j,u)::r,k,v=>if k==j then(j,v)::r else(j,u)::xD r k v
def nV(h:Heap)(d:Addr)(fs:List (Nat×V)):Prop:=
 ∃o es n,h.get? d=some o/\o.cls=.type "dict" /\o.data=.dict es n/\StrKeys es/\es.size=fs.length/\
  (∀k,k<27->match AM fs k with|some x=>∃v,nsFind es (atName k)=some v/\cZ h v x|none=>nsFind es (atName k)=none)/\
  ∀x,(∀k,k<27->x≠atName k)->nsFind es x=none
noncomputable def sD(h:Heap)(x:Addr):Option Addr:=(h.get? x).bind Obj.dict
def ub(G:Addr->Bool)(h:Heap)(a:Addr):MO->Prop
 | .list vs=>∃aQ,(h.IsList a aQ.toArray/\sD h a=none)/\bU h aQ vs
 | .inst C fs=>G C=true/\∃o d,h.get? a=some o/\o.cls=.ref C/\o.data=.plain/\o.dict=some d/\nV h d fs
 | .c9 b=>∃o b',h.get? a=some o/\o.cls=.type "bytearray" /\(o.data=.bytearray b' 0/\o.dict=none)/\b'.toList=b
noncomputable def ey:Option MO->Bool
 |some (.inst _ _)=>true
 |_=>false
def FP(H:Hp)(h:Heap)(a:Addr):Prop:=H a≠none\/∃x,ey (H x)=true/\sD h x=some a
structure kC(G:Addr->Bool)(H:Hp)(h:Heap):Prop where
 obj:∀a mo,H a=some mo->ub G h a mo
 inj:∀x y d,ey (H x)=true->ey (H y)=true->sD h x=some d->sD h y=some d->x=y
 off:∀x d,ey (H x)=true->sD h x=some d->H d=none
def ju(S:Addr->Prop)(h h':Heap):Prop:=∀b o,¬S b->h.get? b=some o->(∀vs,o.data≠.fields vs)->∃sl,h'.get? b=some {o with slots:=sl}
theorem ju.of_keeps(k:∀b o,h.get? b=some o->h'.get? b=some o):ju S h h':=λb o _ e _=>⟨o.slots,k b o e⟩
theorem ju.kB(k:eo a h h'):ju (· =a) h h':=λb o n e _=>⟨o.slots,(k.2 b n).trans e⟩
theorem ju.Lm(k:h.UpToSlots h'):ju S h h':=λb o _ e q=>k b o e q
theorem ju.mono(k:ju S h h')(i:∀b,S b->T b):ju T h h':=λb o n e q=>k b o (λs=>n (i b s)) e q
theorem ju.tup(k:ju S h h')(c:∀a i,q0 h a i->¬S a):dN h h':=by
 intro a i t;have n:=c _ _ t;erw[cY t,(o d f g),bf g,(m b),bf (k a o n d (λv q=>by rw[b] at q;injection q)),(sl e),<-⟨_,e,f,m,b⟩]
theorem ub.pC(x:ub G h a mo):∃o,h.get? a=some o/\(∀vs,o.data≠.fields vs)/\o.cls≠.type "tuple":=by
 induction mo using MO.casesOn with
 |list vs=>
  erw[ay x,(m i _),aD i,(l _),cY l,(o c f p),bf p,(n e),<-⟨o,c,(λvs q=>by rw[e] at q;injection q),by erw[aj f];decide⟩]
 |inst C j=>
  erw[aD x,(_ u),f9 u,(o d c f e _),<-⟨o,c,(λvs q=>by rw[e] at q;injection q),by erw[aj f];exact λq=>by injection q⟩]
 |c9 b=>
  erw[f9 x,(o k c f g _),aD g,(e _),<-⟨o,c,(λvs q=>by rw[e] at q;injection q),by erw[aj f];decide⟩]
theorem kC.own(R:kC G H h)(f:FP H h a):∃o,h.get? a=some o/\(∀vs,o.data≠.fields vs)/\o.cls≠.type "tuple":=by
 rcases f with f|⟨x,b,g⟩
 ·cases e:H a with
  |none=>exact absurd e f
  |some m=>exact(R.obj a m e).pC
 ·cases e:H x with
  |none=>rw[e] at b;injection b
  |some m=>
   induction m using MO.casesOn with
   |inst C s=>
    erw[aD (R.obj x _ e),(_ l),iB l,(o d k r p Q E),nh E,(j t n w i c _)];have:d=a:=by unfold sD at g;rw[k,Option.bind_some,Q] at g;exact bV g
    subst this;exact⟨j,w,(λvs q=>by rw[c] at q;injection q),by erw[aj i];decide⟩
   |list _=>rw[e] at b;injection b
   |c9 _=>rw[e] at b;injection b
theorem kC.AL(R:kC G H h)(f:FP H h a):¬q0 h a items:=by
 rintro ⟨o,ho,hc,_⟩
 erw[cY (R.own f),(c w _ b)];rw[ho] at w;injection w with w;subst w;exact b hc
theorem ju.list(k:ju S h h')(n:¬S a)(x:h.IsList a items):h'.IsList a items:=by
 erw[cY x,(o c d D),bf D,(m b),bf (k a o n c (λv q=>by rw[b] at q;injection q)),(sl e),<-⟨_,e,d,m,b⟩]
theorem ju.dict(k:ju S h h')(t:dN h h')(n:¬S d)(x:nV h d fs):nV h' d fs:=by
 erw[vk x,(o r m j p f c g l i),bf (k d o n j (λs q=>by rw[f] at q;injection q)),(sl e),<-⟨_,r,m,e,p,f,c,g,λk c=>?_,i⟩];have:=l k c
 split at this
 ·erw[ay this,(v a b),<-⟨v,a,b.mono t⟩]
 ·exact this
theorem ju.CS(k:ju S h h')(t:dN h h')(n:¬S a)(s:∀d,sD h a=some d->ey (some mo)=true->¬S d)(x:ub G h a mo):ub G h' a mo:=by
 induction mo using MO.casesOn with
 |list v=>
  erw[ay x,(A r u),aD r,(hl l),cY (id hl),(o c i p),bf p,(m f),bf (k a o n c (λv q=>by rw[f] at q;injection q)),(sl e),<-⟨A,⟨k.list n hl,by unfold sD at*;rw[c] at l;erw[aj e,<-l]⟩,u.mono t⟩]
 |inst C B=>
  erw[aD x,(g z),iB z,(o d c i j Q D),bf (k a o n c (λv q=>by rw[j] at q;injection q)),(sl e),<-⟨g,_,d,e,i,j,Q,k.dict t (s d (by unfold sD;erw[aj c,<-Q]) rfl) D⟩]
 |c9 b=>
  erw[f9 x,(o y c i f w),bf (k a o n c (λv q=>by rw[f.1] at q;injection q)),(sl e),<-⟨_,y,e,i,f,w⟩]
theorem kC.pN(R:kC G H h)(k:ju S h h')(b:H x≠none)(n:¬S x):sD h' x=sD h x:=by
 erw[cY (R.own (.inl b)),(o a y _),bf (k x o n a y),(sl e)];unfold sD;erw[aj a,aj e];rfl
theorem eZ(h:ey x=true):x≠none:=by rintro rfl;injection h
theorem kC.keep(R:kC G H h)(k:ju S h h')(c:∀a,FP H h a->¬S a)(l:∀a i,q0 h a i->¬S a):kC G H h':=by
 have t:=k.tup l;refine⟨λa m e=>?_,λx y d b g f j=>?_,λx d b f=>?_⟩
 ·refine k.CS t (c a (.inl (by erw[aj e];simp))) (λd o n=>c d (.inr ⟨a,by erw[aj e,<-n],o⟩)) (R.obj a m e)
 ·rw[R.pN k (eZ b) (c x (.inl (eZ b)))] at f;rw[R.pN k (eZ g) (c y (.inl (eZ g)))] at j;exact R.inj x y d b g f j
 ·rw[R.pN k (eZ b) (c x (.inl (eZ b)))] at f;exact R.off x d b f
theorem kC.qj(R:kC G H h)(k:ju S h h')(b:∀a,FP H h a->¬S a)(a:Addr):FP H h' a ↔ FP H h a:=by
 constructor
 ·rintro (f|⟨x,hx,hd⟩)
  ·exact .inl f
  ·exact .inr ⟨x,hx,by rwa [R.pN k (eZ hx) (b x (.inl (eZ hx)))] at hd⟩
 ·rintro (f|⟨x,hx,hd⟩)
  ·exact .inl f
  ·exact .inr ⟨x,hx,by erw[aj (R.pN k (eZ hx) (b x (.inl (eZ hx))))];assumption⟩
theorem kC.less(R:kC G H h)(l:∀a mo,H' a=some mo->H a=some mo):kC G H' h:=by
 have c:∀x,ey (H' x)=true->ey (H x)=true:=λx b=>by
  cases e:H' x with
  |none=>rw[e] at b;injection b
  |some mo=>refine' aj (l _ _ e) ?_;rw[e] at b;exact b
 refine⟨λa mo e=>R.obj a mo (l _ _ e),λx y d b f=>R.inj x y d (c x b) (c y f),λx d b g=>?_⟩;have:=R.off x d (c x b) g;cases e:H' d with
 |none=>rfl
 |some mo=>rw[l _ _ e] at this;injection this
theorem FP.less(l:∀a mo,H' a=some mo->H a=some mo)(f:FP H' h a):FP H h a:=by
 rcases f with f|⟨x,b,c⟩
 ·cases e:H' a with
  |none=>exact absurd e f
  |some mo=>exact .inl (by erw[aj (l _ _ e)];simp)
 ·refine .inr ⟨x,?_,c⟩;cases e:H' x with
  |none=>rw[e] at b;injection b
  |some mo=>refine' aj (l _ _ e) ?_;rw[e] at b;exact b
variable{K:fq}
variable{B:Heap}
variable{ak:List (Addr×Obj)}
variable{os:bL}
variable{H:Hp}
variable{ρ:Loc}
noncomputable def qz(S:Addr->Prop)(h:Heap):Heap:=open Classical in⟨h.objs.mapIdx λi o=>if S i then {o with data:=.freed} else o,h.life⟩
theorem jy(S:Addr->Prop)(h:Heap)(a:Addr)(o:Obj):(qz S h).get? a=some o ↔ ¬S a/\h.get? a=some o:=by
 rw[x_,x_];unfold qz;simp only[Array.getElem?_mapIdx]
 constructor
 ·rintro ⟨e,f⟩
  erw[ay (rn.mp e),(b e1 e2)]
  split at e2
  ·subst e2;simp[Obj.isFreed] at f
  ·rename_i hn;subst e2;exact⟨hn,e1,f⟩
 ·rintro ⟨n,e,f⟩
  exact⟨by erw[aj e];simp[n],f⟩
theorem mT(x:S a):(qz S h).get? a=none:=by
 cases e:(qz S h).get? a with
 |none=>rfl
 |some o=>exact absurd x ((jy S h a o).mp e).1
theorem oa(S:Addr->Prop)(h:Heap):(qz S h).StaysIn h:=λb o e=>((jy S h b o).mp e).2
theorem dG{b:Heap}(k:B.StaysIn b)(e:b.get? a=none):B.get? a=none:=by
 cases q:B.get? a with
 |none=>rfl
 |some o=>rw[k a o q] at e;injection e
structure xV(K:fq)(B:Heap):Prop where
 Be:K.In B
 top:∃p loose mg mb,TopRead p loose mg mb B
theorem xV.keeps{B:Heap}{K:fq}(x:xV K B)(k:B.StaysIn B'):xV K B':=
 ⟨x.Be.keeps k,by erw[vg x.top,(p l m a t),<-⟨p,l,m,a,t.keeps k⟩]⟩
def rU(K:fq)(C:Addr):Bool:=plainGet K C "" &&hasDictIn K C&&plainOver K C&&findIn K (.ref C) "__setattr__" ==some (some (.builtin "object.__setattr__")) &&
 (AT.all λx=>findIn K (.ref C) (eP x) ==some none&&takerIn K C (eP x) ==some none) &&isClsIn K C
def Np(o:Obj):Prop:=∃es n,o.data=.dict es n
structure hJ(K:fq)(B:Heap)(ak:List (Addr×Obj))(os:bL)(H:Hp)(s:Shared):Prop where
 st:xV K B
 stays:B.StaysIn s.heap
 rel:kC (rU K) H s.heap
 nU:∀a,FP H s.heap a->B.get? a=none
 ak:∀p∈ak,B.get? p.1=none/\¬FP H s.heap p.1/\Np p.2/\∃sl,s.heap.get? p.1=some {p.2 with slots:=sl}
 gens:s.gens=#[]
 os:s.os=os
theorem hJ.down(st:xV K B)(k:B.StaysIn B')(S:hJ K B' ak os H s):hJ K B ak os H s:=
 ⟨st,λb o e=>S.stays b o (k b o e),S.rel,λa f=>dG k (S.nU a f),λp h=>⟨dG k (S.ak p h).1,(S.ak p h).2⟩,S.gens,S.os⟩
theorem hJ.less(S:hJ K B ak os H s)(l:∀a mo,H' a=some mo->H a=some mo):hJ K B ak os H' s:=
 ⟨S.st,S.stays,S.rel.less l,λa f=>S.nU a (f.less l),λp h=>⟨(S.ak p h).1,λf=>(S.ak p h).2.1 (f.less l),(S.ak p h).2.2⟩,S.gens,S.os⟩
theorem hJ.keep(S:hJ K B ak os H s)(k:ju T s.heap s'.heap)(j:B.StaysIn s'.heap)(h1:∀a,FP H s.heap a->¬T a)(h2:∀a i,q0 s.heap a i->¬T a)(h3:∀p∈ak,¬T p.1)(m:s'.gens=#[])(l:s'.os=os):hJ K B ak os H s':=by
 erw[<-⟨S.st,j,S.rel.keep k h1 h2,λa f=>S.nU a ((S.rel.qj k h1 a).mp f),λp h=>?_,m,l⟩,dY (S.ak p h),(a b c o),bf o,(sl d),gR (id c),(t n e),bf (k p.1 _ (h3 p h) d (λv q=>by rw[show({p.2 with slots:=sl}:Obj).data=p.2.data from rfl,e] at q;injection q)),(g r),<-⟨a,λf=>b ((S.rel.qj k h1 _).mp f),c,g,r⟩]
theorem hJ.grow(S:hJ K B ak os H s)(k:∀b o,s.heap.get? b=some o->s'.heap.get? b=some o)(a:s'.gens=#[])(h:s'.os=os):hJ K B ak os H s':=
 S.keep (ju.of_keeps k) (λb o e=>k b o (S.stays b o e)) (λ_ _=>id) (λ_ _ _=>id) (λ_ _=>id) a h
theorem hJ.ups(S:hJ K B ak os H s)(k:s.heap.UpToSlots s'.heap)(a:B.StaysIn s'.heap)(b:s'.gens=#[])(h:s'.os=os):hJ K B ak os H s':=
 S.keep (ju.Lm k) a (λ_ _=>id) (λ_ _ _=>id) (λ_ _=>id) b h
theorem hJ.same(S:hJ K B ak os H s)(e:s'.heap=s.heap)(a:s'.gens=s.gens:=by rfl)(h:s'.os=s.os:=by rfl):hJ K B ak os H s':=
 S.grow (λb o q=>by erw[aj e,<-q]) (a.trans S.gens) (h.trans S.os)
def Hid(ak:List (Addr×Obj))(H:Hp)(h:Heap)(P:Addr->Prop)(a:Addr):Prop:=FP H h a\/P a\/∃p∈ak,p.1=a
theorem hJ.up(S:hJ K B ak os H s)(P:Addr->Prop)(c:∀a,P a->B.get? a=none):
  B.StaysIn (qz (Hid ak H s.heap P) s.heap):=λb o e=>(jy _ _ _ _).mpr ⟨(λx=>by
   rcases x with f|f|⟨p,h,rfl⟩
   ·rw[S.nU b f] at e;injection e
   ·rw[c b f] at e;injection e
   ·rw[(S.ak p h).1] at e;injection e),S.stays b o e⟩
theorem hJ.raise(S:hJ K B ak os H s)(P:Addr->Prop)(b:∀a,P a->B.get? a=none):hJ K (qz (Hid ak H s.heap P) s.heap) ak os H s:=
 ⟨S.st.keeps (S.up P b),oa _ _,S.rel,λ_ f=>mT (.inl f),λp h=>⟨mT (.inr (.inr ⟨p,h,rfl⟩)),(S.ak p h).2⟩,S.gens,S.os⟩
theorem hJ.wy(S:hJ K B ak os H s)(j:∀a,P a->∀i,¬q0 s.heap a i):dN s.heap (qz (Hid ak H s.heap P) s.heap):=λa i t=>by
 erw[cY t,(o h b r),<-⟨o,(jy _ _ _ _).mpr ⟨λx=>?_,h⟩,b,r⟩];rcases x with f|f|⟨p,d,rfl⟩
 ·exact S.rel.AL f ⟨o,h,b,r⟩
 ·exact j a f i ⟨o,h,b,r⟩
 ·erw[dY (S.ak p d),(_ _ c l),gR c,(k n g),bf l,(sl e)];rw[e] at h;injection h with h;subst h
  erw[bf r,(m q)];rw[g] at q;injection q
theorem dN.of_stays(k:B.StaysIn h):dN B h:=λ_ _=>bI λo e r=>⟨o,k _ o e,r⟩
inductive Kd|loc|cell|ro
abbrev dJ:=List (Str×Kd×Nat)
structure D6(N:dJ)(au:mA)(ρ:Loc)(B:Heap)(ak:List (Addr×Obj))(H:Hp)(h:Heap):Prop where
 ns:∃m,h.Ns au.locals m/\∀x k i,(x,k,i)∈N->k=.loc->∀v,ρ i=some v->∃val,m x=some val/\cZ h val v
 nU:B.get? au.locals=none
 off:¬FP H h au.locals
 out:∀p∈ak,p.1≠au.locals
 cell:∀x i,(x,Kd.cell,i)∈N->∃c o,au.cells.lookup x=some c/\c≠au.locals/\B.get? c=none/\¬FP H h c/\(∀p∈ak,p.1≠c)/\h.get? c=some o/\∃v?,o.data=.cell v?/\∀v,ρ i=some v->∃val,v?=some val/\cZ h val v
 inj:∀x y i j c,(x,Kd.cell,i)∈N->(y,Kd.cell,j)∈N->au.cells.lookup x=some c->au.cells.lookup y=some c->x=y
 ro:∀x i,(x,Kd.ro,i)∈N->∀v,ρ i=some v->∃c val,au.cells.lookup x=some c/\B.IsCell c (some val)/\cZ B val v
def Own(N:dJ)(au:mA)(a:Addr):Prop:=a=au.locals\/∃x i,(x,Kd.cell,i)∈N/\au.cells.lookup x=some a
section
variable{N:dJ}
theorem D6.LB(F:D6 N au ρ B ak H h)(o:Own N au a):B.get? a=none:=by
 rcases o with rfl|⟨x,i,m,e⟩
 ·exact F.nU
 ·erw[f9 (F.cell x i m),(c _ d _ b _)];rw[e] at d;injection d with d;subst d;exact b
theorem D6.vc(F:D6 N au ρ B ak H h)(o:Own N au a):∀b,¬q0 h a b:=by
 rintro b ⟨ob,d,hc,n,hd⟩
 rcases o with rfl|⟨x,i,m,e⟩
 ·erw[ay F.ns,(_ p _),iD p,(o q r g f _)];rw[g] at d;injection d with d;subst d;rw[f] at hd;injection hd
 ·erw[iB (F.cell x i m),(c l j _ _ _ u),cA u,(_ g k),ay k];intro v? f _;rw[e] at j;injection j with j;subst j;rw[g] at d;injection d with d;subst d;rw[f] at hd;injection hd
theorem D6.down(k:B.StaysIn B')(a:∀x i,(x,Kd.ro,i)∈N->∀v,ρ i=some v->∃c val,au.cells.lookup x=some c/\B.IsCell c (some val)/\cZ B val v)(F:D6 N au ρ B' ak H h):D6 N au ρ B ak H h:=
 ⟨F.ns,dG k F.nU,F.off,F.out,λx i m=>by erw[f9 (F.cell x i m),(c o e d b r),<-⟨c,o,e,d,dG k b,r⟩],F.inj,a⟩
theorem D6.up(k:B.StaysIn B')(g:∀a,Own N au a->B'.get? a=none)(F:D6 N au ρ B ak H h):D6 N au ρ B' ak H h:=
 ⟨F.ns,g _ (.inl rfl),F.off,F.out,λx i m=>by erw[f9 (F.cell x i m),(c o b f _ r),<-⟨c,o,b,f,g _ (.inr ⟨x,i,m,b⟩),r⟩],F.inj,
  λx i m v e=>by refine dg (F.ro x i m v e) ?_;intro c d b f j;exact⟨c,d,b,f.keeps k,j.mono (dN.of_stays k)⟩⟩
theorem D6.keep(F:D6 N au ρ B ak H h)(k:ju T h h')(t:dN h h')(p:∀a,Own N au a->¬T a)(l:∀a,Own N au a->¬FP H' h' a):D6 N au ρ B ak H' h':=by
 erw[ay F.ns,(m R y),nh R,(o D E z n C A),bf (k _ o (p _ (.inl rfl)) z (λr q=>by rw[n] at q;injection q)),(sl e),<-⟨⟨m,⟨_,D,E,e,n,C,A⟩,λx w i g q v f=>?_⟩,F.nU,l _ (.inl rfl),F.out,λx i g=>?_,F.inj,F.ro⟩]
 ·erw[ay (y x w i g q v f),(d a b),<-⟨d,a,b.mono t⟩]
 ·erw[iB (F.cell x i g),(c u j O M S P),cA P,(L K Q),ay Q];intro v? a8 a9;erw[bf (k c u (p _ (.inr ⟨x,i,g,j⟩)) K (λr q=>by rw[a8] at q;injection q)),(s G),<-⟨c,_,j,O,M,l _ (.inr ⟨x,i,g,j⟩),L,G,v?,a8,λv f=>by erw[ay (a9 v f),(d J I),<-⟨d,J,I.mono t⟩]⟩]
end
structure Sat(K:fq)(N:dJ)(au:mA)(ρ:Loc)(B:Heap)(ak:List (Addr×Obj))(os:bL)(H:Hp)(s:Shared):Prop where
 h:hJ K B ak os H s
 f:D6 N au ρ B ak H s.heap
section
variable{N:dJ}
def top(N:dJ)(au:mA)(ak:List (Addr×Obj))(H:Hp)(h:Heap):Heap:=qz (Hid ak H h (Own N au)) h
theorem Sat.stays(S:Sat K N au ρ B ak os H s):B.StaysIn (top N au ak H s.heap):=S.h.up _ λ_ o=>S.f.LB o
theorem Sat.wy(S:Sat K N au ρ B ak os H s):dN s.heap (top N au ak H s.heap):=S.h.wy λ_ o=>S.f.vc o
theorem Sat.raise(S:Sat K N au ρ B ak os H s):Sat K N au ρ (top N au ak H s.heap) ak os H s:=
 ⟨S.h.raise _ λ_ o=>S.f.LB o,S.f.up S.stays λ_ o=>mT (.inr (.inl o))⟩
theorem Sat.down(G:Sat K N au ρ B ak os H s)(k:B.StaysIn B')(S:Sat K N au ρ B' ak os H' s'):Sat K N au ρ B ak os H' s':=
 ⟨S.h.down G.h.st k,S.f.down k G.f.ro⟩
theorem Sat.less(S:Sat K N au ρ B ak os H s)(l:∀a mo,H' a=some mo->H a=some mo):Sat K N au ρ B ak os H' s:=
 ⟨S.h.less l,S.f.keep (ju.of_keeps λ_ _ e=>e) (λ_ _ t=>t) (λ_ _=>id) λa o f=>by
  rcases o with rfl|⟨x,i,m,e⟩
  ·exact S.f.off (f.less l)
  ·erw[iB (S.f.cell x i m),(c _ b _ _ n _)];rw[e] at b;injection b with b;subst b;exact n (f.less l)⟩
theorem D6.AW(F:D6 N au ρ B ak H h)(o:Own N au a):¬FP H h a:=by
 rcases o with rfl|⟨x,i,m,e⟩
 ·exact F.off
 ·erw[iB (F.cell x i m),(c _ b _ _ n _)];rw[e] at b;injection b with b;subst b;exact n
theorem Sat.keep(S:Sat K N au ρ B ak os H s)(k:ju T s.heap s'.heap)(b:B.StaysIn s'.heap)(h1:∀a,FP H s.heap a->¬T a)(h2:∀a i,q0 s.heap a i->¬T a)(h3:∀p∈ak,¬T p.1)(h4:∀a,Own N au a->¬T a)(d:s'.gens=#[])(c:s'.os=os):Sat K N au ρ B ak os H s':=
 ⟨S.h.keep k b h1 h2 h3 d c,S.f.keep k (k.tup h2) h4 λa o f=>S.f.AW o ((S.h.rel.qj k h1 a).mp f)⟩
theorem Sat.grow(S:Sat K N au ρ B ak os H s)(k:∀b o,s.heap.get? b=some o->s'.heap.get? b=some o)(c:s'.gens=#[])(a:s'.os=os):Sat K N au ρ B ak os H s':=
 S.keep (ju.of_keeps k) (λb o e=>k b o (S.h.stays b o e)) (λ_ _=>id) (λ_ _ _=>id) (λ_ _=>id) (λ_ _=>id) c a
theorem Sat.same(S:Sat K N au ρ B ak os H s)(e:s'.heap=s.heap)(c:s'.gens=s.gens:=by rfl)(a:s'.os=s.os:=by rfl):Sat K N au ρ B ak os H s':=
 S.grow (λb o q=>by erw[aj e,<-q]) (c.trans S.h.gens) (a.trans S.h.os)
theorem Sat.tok(S:Sat K N au ρ B ak os H s)(t:Nat):Sat K N au ρ B ak os H {s with toks:=t}:=S.same rfl
theorem Sat.push(S:Sat K N au ρ B ak os H s)(o:Obj):Sat K N au ρ B ak os H {s with heap:=s.heap.push o}:=S.grow (λ_ _ e=>bB o e) S.h.gens S.h.os
end
section
structure Ar(A:Around)(l:List mA)(n:Nat):Prop where
 handled:A.handled=none
 frames:A.frames=some l
 depth:A.depth+4*n<=900
 units:A.units+100*n<=9000
structure Xb(A:Around)(l:List mA)(n:Nat):Prop where
 handled:A.handled=none
 frames:A.frames=some l
 depth:A.depth+4*n+2<=900
 units:A.units+100*n+90<=9000
theorem Xb.ar(h:Xb A l n):Ar A l n:=⟨h.handled,h.frames,by have:=h.depth;exact zwd this rfl,by have:=h.units;exact zwd this rfl⟩
theorem Xb.made(h:Xb A l n)(C:Addr)(a:List Value):Ar (A.under (.builtin "type.__call__" ⟨.ref C::a,[]⟩)) l n:=by
 refine⟨h.handled,h.frames,?_,?_⟩
 ·show A.depth+1+4*n<=900;have:=h.depth;exact fp [(zk (zp av aX) 2,zn 900)] (zp (zs av) aX,zn 900) rt this
 ·show A.units+1+100*n<=9000;have:=h.units;exact fp [(zk (zp av aX) 90,zn 9000)] (zp (zs av) aX,zn 9000) rt this
def Ai(l:List mA)(ak:List (Addr×Obj)):Prop:=∀e∈l,e.scope.kind≠.module/\∃L,e.frame=some L/\∃p∈ak,p.1=L
def aZ(af:eE)(w:bY)(K:fq)(n:Nat)(f:Addr)(args:List V)(H:Hp)(Q:V->Hp->Prop)(X:Addr->Hp->Prop):Prop:=
 ∀(B:Heap) (ak:List (Addr×Obj)) (os:bL) (l:List mA) (A:Around) (s:Shared) (aQ:List Value),
  Ar A l n->Ai l ak->hJ K B ak os H s->bU B aQ args->
  dV (model af w) A (.call (.ref f) ⟨aQ,[]⟩) (λr s'=>match r with
   | .ok (.ret v)=>∃x H',cZ s'.heap v x/\Q x H'/\hJ K B ak os H' s'
   | .ok _=>False
   | .error e=>∃ea C,∃_:Unit,∃H',e=.ref ea/\X C H'/\hJ K B ak os H' s'/\Way B l ea (.ref C) .none s'.heap) s
theorem aZ.mono{K:fq}(h:aZ af w K n f args H Q X)(p:∀v i,Q v i->∃g,(∀a mo,g a=some mo->i a=some mo)/\Q' v g)(o:∀C i,X C i->∃g,(∀a mo,g a=some mo->i a=some mo)/\X' C g):aZ af w K n f args H Q' X':=
 λB ak os l A s u a b c d=>kR (h B ak os l A s u a b c d) λr D z=>by
  rcases r with e|(v|_|_|v)
  ·erw[iR z,(t C y i e1 x S F),ay (o _ _ x),(g j k),<-⟨t,C,y,g,e1,k,S.less j,F⟩]
  ·exact z
  ·exact z
  ·exact z
  ·erw[dg z,(x i r q S),ay (p _ _ q),(g j m),<-⟨x,g,r,m,S.less j⟩]
inductive E8|fn(f:Addr)|cls (C:Addr) (init:Addr)|len|bytes|c9|sorted|tuple|list|sum|min
set_option genSizeOf true
inductive E where
 |cst (v:V)|loc (i:Nat)
 |not (e:E)|and (es:List E)|or (es:List E)|ite (c a b:E)
 |bin (op:B_) (a b:E)|cmp (op:CmpOp) (a b:E)|qL (e:E) (neg:Bool)
 |attr (e:E) (k:Nat)|sub (e i:E)|A4 (e:E) (lo hi:Option E)
 |tup (es:List E)|lst (es:List E)
 |call (c:E8) (es:List E)|bp (e:E) (m:Nat) (es:List E)
 |comp (elt it:E) (cond:Option E)|kg (elt hi:E)
 |text (ps:List E)
 |JT
inductive S where
 |expr (e:E)|bq (i:Nat) (e:E)|cD (o:E) (k:Nat) (e:E)|hX (o i e:E)|AF (is:List Nat) (e:E)
 |pK (i:Nat) (op:B_) (e:E)|Cg (o:E) (k:Nat) (op:B_) (e:E)
 |dp (t:E) (a b:List S)|o9 (t:E) (b:List S)|q9 (x:Nat) (e:E) (b:List S)|forR (x:Nat) (lo:Option E) (hi:E) (b:List S)
 |ret (e:Option E)|brk|pass|raise (C:Addr) (e:E)|kL (b:List S) (C:Addr) (v:V)|iG (b:List S) (C C':Addr)
 |bad
set_option genSizeOf false
inductive Fl|next|brk|ret(v:V)
def big(i:Int):Prop:=i.natAbs<2^400
def wW(x y:V)(f:Int->Int->Prop):Prop:=match x with
 | .int a=>(match y with| .int b=>f a b|_=>False)
 |_=>False
def DR(x:V)(f:Int->Prop):Prop:=match x with
 | .int a=>f a
 |_=>False
theorem Im(h:DR x f):∃a,x=.int a/\f a:=by
 induction x using V.casesOn with
 |int a=>exact⟨a,rfl,h⟩
 |_=>exact h.elim
theorem PO(h:wW x y f):∃a b,x=.int a/\y=.int b/\f a b:=by
 induction x using V.casesOn with
 |int a=>exact let⟨b,e,h⟩:=Im h;⟨a,b,rfl,e,h⟩
 |_=>exact h.elim
def jZ(H:Hp)(a:Addr)(f:List V->Prop):Prop:=match H a with
 |some (.list vs)=>f vs
 |_=>False
theorem gh(h:jZ H a f):∃vs,H a=some (.list vs)/\f vs:=by
 unfold jZ at h;cases e:H a with
 |none=>rw[e] at h;exact h.elim
 |some m=>
  rw[e] at h
  induction m using MO.casesOn with
  |list vs=>exact⟨vs,rfl,h⟩
  |_=>exact h.elim
theorem gM(e:H a=some (.list vs))(h:f vs):jZ H a f:=by
 unfold jZ;erw[aj e,<-h]
def fN(v:V)(H:Hp)(Q:Bool->Prop):Prop:=match v with
 | .none=>Q false
 | .bool b=>Q b
 | .int i=>Q (i !=0)
 | .ref a=>jZ H a λvs=>vs.length<=100000/\Q (!vs.isEmpty)
 |_=>False
def kI(op:B_)(x y:V)(H:Hp)(Q:V->Hp->Prop):Prop:=match op with
 | .Add=>(match x with
   | .int a=>DR y λb=>Q (.int (a+b)) H
   | .bytes a=>(match y with
     | .bytes b=>a.length+b.length<=1000000/\Q (.bytes (a++b)) H
     |_=>False)
   | .ref a=>(match y with
     | .ref b=>jZ H a λxs=>jZ H b λys=>xs.length+ys.length<=100000/\∀c,H c=none->Q (.ref c) (upd H c (.list (xs++ys)))
     |_=>False)
   |_=>False)
 | .Sub=>wW x y λa b=>Q (.int (a-b)) H
 | .Mult=>(match x with
   | .int a=>DR y λb=>big a/\big b/\Q (.int (a*b)) H
   | .bytes a=>DR y λb=>a≠[]/\2<=b/\b<=1000/\a.length<=1000/\Q (.bytes (kP b.toNat a).flatten) H
   |_=>False)
 | .FloorDiv=>wW x y λa b=>big a/\big b/\b≠0/\Q (.int (a.fdiv b)) H
 | .Mod=>wW x y λa b=>b≠0/\Q (.int (a.fmod b)) H
 | .Pow=>wW x y λa b=>0<=b/\b<=1000/\a.natAbs<2^64/\Q (.int (a^b.toNat)) H
 | .BitAnd=>wW x y λa b=>Q (.int (gE a b)) H
 | .BitOr=>wW x y λa b=>Q (.int (jj a b)) H
 | .LShift=>wW x y λa b=>0<=b/\b<=1000/\a.natAbs<2^64/\Q (.int (a*2^b.toNat)) H
 | .RShift=>wW x y λa b=>0<=b/\Q (.int (a.fdiv (2^b.toNat))) H
 |_=>False
noncomputable def plain:Nat->V->Bool
 |0,v=>(match v with| .none| .bool _| .int _| .bytes _=>true|_=>false)
 |n+1,v=>(match v with| .none| .bool _| .int _| .bytes _=>true| .tup vs=>vs.all (plain n)|_=>false)
def eqW(x y:V)(H:Hp)(Q:Bool->Prop):Prop:=match x with
 | .int a=>DR y λb=>Q (a==b)
 | .bytes a=>(match y with
   | .bytes b=>Q (a==b)
   |_=>False)
 | .tup a=>(match y with
   | .tup b=>a=b/\plain 9 (.tup a)=true/\Q true
   |_=>False)
 | .ref a=>(match y with
   | .ref b=>jZ H a λxs=>jZ H b λys=>xs=ys/\(xs.all (plain 9))=true/\Q true
   |_=>False)
 |_=>False
def jH(op:CmpOp)(x y:V)(H:Hp)(Q:Bool->Prop):Prop:=match op with
 | .Eq=>eqW x y H Q
 | .NotEq=>eqW x y H λb=>Q (!b)
 | .Lt=>wW x y λa b=>Q (decide (a<b))
 | .LtE=>wW x y λa b=>Q (decide (a<=b))
 | .Gt=>wW x y λa b=>Q (decide (a>b))
 | .GtE=>wW x y λa b=>Q (decide (a≥b))
 |_=>False
noncomputable def isNone:V->Option Bool
 | .none=>some true
 | .tup _=>some false
 | .int _=>some false
 | .bytes _=>some false
 | .bool _=>some false
 | .ref _=>some false
 | .text=>some false
def IP(x:V)(H:Hp)(f:Addr->Addr->List (Nat×V)->Prop):Prop:=match x with
 | .ref a=>(match H a with|some (.inst C fs)=>f a C fs|_=>False)
 |_=>False
theorem Ii(h:IP x H f):∃a C b,x=.ref a/\H a=some (.inst C b)/\f a C b:=by
 induction x using V.casesOn with
 |ref a=>
  unfold IP at h;dsimp only at h;cases e:H a with
  |none=>rw[e] at h;exact h.elim
  |some m=>
   rw[e] at h
   induction m using MO.casesOn with
   |inst C b=>exact⟨a,C,b,rfl,e,h⟩
   |_=>exact h.elim
 |_=>exact h.elim
theorem Hv(e:H a=some (.inst C fs))(h:f a C fs):IP (.ref a) H f:=by
 unfold IP;dsimp only;erw[aj e,<-h]
def yo(x:V)(k:Nat)(H:Hp)(Q:V->Prop):Prop:=IP x H λ_ _ fs=>k<27/\∃v,AM fs k=some v/\Q v
def kX(x:V)(k:Nat)(v:V)(H:Hp)(Q:Hp->Prop):Prop:=IP x H λa C fs=>k<27/\fs.length<=100/\Q (upd H a (.inst C (xD fs k v)))
noncomputable def MC(vs:List V)(i:Int):Option V:=if 0<=i then vs[i.toNat]? else if-(vs.length:Int)<=i then vs[(i+vs.length).toNat]? else none
def Av(x i:V)(H:Hp)(Q:V->Prop):Prop:=DR i λk=>match x with
 | .ref a=>jZ H a λvs=>vs.length<=100000/\∃v,MC vs k=some v/\Q v
 | .tup vs=>vs.length<=100000/\0<=k/\∃v,vs[k.toNat]?=some v/\Q v
 | .bytes b=>b.length<=1000000/\0<=k/\∃u,b[k.toNat]?=some u/\Q (.int u.toNat)
 |_=>False
def wj(x i v:V)(H:Hp)(Q:Hp->Prop):Prop:=DR i λk=>match x with
 | .ref a=>jZ H a λvs=>vs.length<=100000/\0<=k/\k<vs.length/\Q (upd H a (.list (vs.set k.toNat v)))
 |_=>False
noncomputable def cut{α:Type}(l:List α)(lo hi:Option Int):List α:=(match hi with|some h=>l.take h.toNat|none=>l).drop (match lo with|some k=>k.toNat|none=>0)
def sP:Option Int->Prop
 |some k=>0<=k/\k<2^60
 |none=>True
def Kn(x:V)(lo hi:Option Int)(H:Hp)(Q:V->Hp->Prop):Prop:=sP lo/\sP hi/\match x with
 | .ref a=>jZ H a λvs=>vs.length<=100000/\∀c,H c=none->Q (.ref c) (upd H c (.list (cut vs lo hi)))
 | .bytes b=>b.length<=1000000/\Q (.bytes (cut b lo hi)) H
 |_=>False
noncomputable def lh:List V->Option (List Int)
 |[]=>some []
 | .int i::r=>(lh r).map (i:: ·)
 |_=>none
noncomputable def ql:List V->Option (List UInt8)
 |[]=>some []
 | .bytes b::r=>(ql r).map (b++ ·)
 |_=>none
noncomputable def toBytes(l:List Int):List UInt8:=l.map λi=>cM i.toNat
def OM(l:List V)(f:Addr->Prop):Prop:=match l with
 |[.ref a]=>f a
 |_=>False
theorem SK{l:List V}(h:OM l f):∃a,l=[.ref a]/\f a:=by
 induction l using lcs with
 |nil=>exact h.elim
 |cons x l=>
  induction l using lcs with
  |cons=>induction x using V.casesOn<;>exact h.elim
  |nil=>
   induction x using V.casesOn with
   |ref a=>exact⟨a,rfl,h⟩
   |_=>exact h.elim
def jR(c:E8)(args:List V)(H:Hp)(Q:V->Hp->Prop):Prop:=match c with
 | .len=>(match args with
   |[.bytes b]=>b.length<=1000000/\Q (.int b.length) H
   |l=>OM l λa=>jZ H a λvs=>vs.length<=100000/\Q (.int vs.length) H)
 | .bytes=>(match args with
   |[.bytes b]=>Q (.bytes b) H
   |l=>OM l λa=>match H a with
     |some (.c9 b)=>b.length<=1000000/\Q (.bytes b) H
     |_=>jZ H a λvs=>∃l,lh vs=some l/\(∀i∈l,0<=i/\i<256)/\l.length<=1000/\Q (.bytes (toBytes l)) H)
 | .c9=>args=[]/\∀c,H c=none->Q (.ref c) (upd H c (.c9 []))
 | .sorted=>OM args λa=>jZ H a λvs=>∃l,lh vs=some l/\l.Pairwise (· <=·)/\l.length<64/\∀c,H c=none->Q (.ref c) (upd H c (.list vs))
 | .tuple=>OM args λa=>jZ H a λvs=>vs.length<=1000/\Q (.tup vs) H
 | .list=>OM args λa=>jZ H a λvs=>vs.length<=1000/\∀c,H c=none->Q (.ref c) (upd H c (.list vs))
 | .sum=>OM args λa=>jZ H a λvs=>∃l,lh vs=some l/\l.length<=1000/\Q (.int l.sum) H
 | .min=>(match args with
   |[.int a,.int b]=>Q (.int (min a b)) H
   |_=>False)
 |_=>False
noncomputable def MT:List String:=["append","pop","extend","join","varint","lengthed","flag","done","left","row","copy","payload","size","encode","maybe_term","stable_to","truncate_and_append","part"]
def Aa(m:Nat):Str:=eP (MT.getD m "")
inductive GE|call(c:E8)|int (i:Int)|exc (C:Addr)|nC
structure lu where
 bp:Addr->Nat->Option Addr
 sub:Addr->Addr->Bool
 glob:Str->Option GE
section
variable(af:eE)(w:bY)(K:fq)(T:lu)(n:Nat)
def ke(x:V)(m:Nat)(args:List V)(H:Hp)(Q:V->Hp->Prop)(X:Addr->Hp->Prop):Prop:=match x with
 | .ref a=>(match H a with
   |some (.list vs)=>vs.length<=100000/\((m=0/\∃v,args=[v]/\Q .none (upd H a (.list (vs++[v]))))\/(m=1/\∃i v,args=[.int i]/\0<=i/\vs[i.toNat]?=some v/\Q v (upd H a (.list (vs.eraseIdx i.toNat)))))
   |some (.c9 b)=>b.length<=100000/\((m=0/\∃i,args=[.int i]/\0<=i/\i<256/\Q .none (upd H a (.c9 (b++[cM i.toNat]))))\/(m=2/\∃c,args=[.bytes c]/\c.length<=100000/\Q .none (upd H a (.c9 (b++c)))))
   |some (.inst C _)=>∃f,T.bp C m=some f/\aZ af w K n f (.ref a::args) H Q X
   |none=>False)
 | .bytes b=>b=[]/\m=3/\OM args λa=>jZ H a λvs=>∃b,ql vs=some b/\vs.length<=1000/\b.length<=100000/\Q (.bytes b) H
 |_=>False
end
inductive MK|list|c9|bytes|inst(C:Addr)
noncomputable def mk?(x:V)(H:Hp):Option MK:=match x with
 | .ref a=>(match H a with
   |some (.list _)=>some .list
   |some (.c9 _)=>some .c9
   |some (.inst C _)=>some (.inst C)
   |none=>none)
 | .bytes b=>if b.isEmpty=true then some .bytes else none
 |_=>none
noncomputable def PK(T:lu):MK->Nat->Bool
 | .list,m=>m==0||m==1
 | .c9,m=>m==0||m==2
 | .bytes,m=>m==3
 | .inst C,m=>(T.bp C m).isSome
section
variable(af:eE)(w:bY)(K:fq)(T:lu)(n:Nat)
def j8(elt:V->Hp->(V->Hp->Prop)->Prop)(cond:V->Hp->(Bool->Hp->Prop)->Prop)(qR:Hp->Prop):List V->List V->Hp->(List V->Hp->Prop)->Prop
 |[],cL,H,Q=>Q cL H
 |v::vs,cL,H,Q=>cond v H λb H'=>if b=true then elt v H' λx cI=>qR cI/\j8 elt cond qR vs (cL++[x]) cI Q else qR H'/\j8 elt cond qR vs cL H' Q
def forL(step:V->Loc->Hp->(Fl->Loc->Hp->Prop)->Prop)(qR:Hp->Prop):List V->Loc->Hp->(Fl->Loc->Hp->Prop)->Prop
 |[],ρ,H,Q=>Q .next ρ H
 |v::vs,ρ,H,Q=>step v ρ H λfl eA H'=>match fl with
   | .next=>qR H'/\forL step qR vs eA H' Q
   | .brk=>Q .next eA H'
   | .ret r=>Q (.ret r) eA H'
noncomputable def gK(lo hi:Int):List V:=(gw (hi-lo).toNat).map λk:Nat=>V.int (lo+(k:Int))
def Ds:Addr->Hp->Prop:=λ_ _=>False
def J6(o:Option V)(P:V->Prop):Prop:=match o with
 |some v=>P v
 |none=>False
theorem zi(h:J6 o P):∃v,o=some v/\P v:=by
 induction o using tU with
 |some v=>exact⟨v,rfl,h⟩
 |none=>exact h.elim
theorem zj(e:o=some v)(h:P v):J6 o P:=by refine' aj e ?_;exact h
noncomputable def Ke(K:fq):Addr:=match K.getLast? with
 |some p=>p.1
 |none=>0
noncomputable def Pu:Value->Int
 | .int i _=>i
 |_=>0
def FR(K:fq):List Int:=match K.getLast? with
 |some p=>(match p.2.data with
   | .seq v _=>(v.toList.take 24).map Pu
   |_=>[])
 |none=>[]
mutual
def dm:E->Loc->Hp->(V->Hp->Prop)->(Addr->Hp->Prop)->Prop
 | .cst v,_,H,Q,_=>Q v H
 | .loc i,ρ,H,Q,_=>J6 (ρ i) λv=>Q v H
 | .not e,ρ,H,Q,X=>dm e ρ H (λv H'=>fN v H' λb=>Q (.bool (!b)) H') X
 | .and es,ρ,H,Q,X=>Hi es ρ H Q X
 | .or es,ρ,H,Q,X=>Ot es ρ H Q X
 | .ite c a b,ρ,H,Q,X=>tG c ρ H (λt H'=>if t=true then dm a ρ H' Q X else dm b ρ H' Q X) X
 | .bin op a b,ρ,H,Q,X=>dm a ρ H (λx H'=>dm b ρ H' (λy cI=>kI op x y cI Q) X) X
 | .cmp op a b,ρ,H,Q,X=>dm a ρ H (λx H'=>dm b ρ H' (λy cI=>jH op x y cI λt=>Q (.bool t) cI) X) X
 | .qL e neg,ρ,H,Q,X=>dm e ρ H (λv H'=>∃t,isNone v=some t/\Q (.bool (t !=neg)) H') X
 | .attr e k,ρ,H,Q,X=>dm e ρ H (λv H'=>yo v k H' λu=>Q u H') X
 | .sub e i,ρ,H,Q,X=>dm e ρ H (λv H'=>dm i ρ H' (λj cI=>Av v j cI λu=>Q u cI) X) X
 | .A4 e lo hi,ρ,H,Q,X=>dm e ρ H (λv H'=>QY lo ρ H' (λa cI=>QY hi ρ cI (λb abh=>Kn v a b abh Q) X) X) X
 | .tup es,ρ,H,Q,X=>es.length<=100/\hM es ρ H (λvs H'=>Q (.tup vs) H') X
 | .lst es,ρ,H,Q,X=>es.length<=100/\hM es ρ H (λvs H'=>∀c,H' c=none->Q (.ref c) (upd H' c (.list vs))) X
 | .call c es,ρ,H,Q,X=>hM es ρ H (λvs H'=>match c with
   | .fn f=>aZ af w K n f vs H' Q X
   | .cls C f=>∀a,H' a=none->aZ af w K n f (.ref a::vs) (upd H' a (.inst C [])) (λr cI=>r=.none/\Q (.ref a) cI) X
   |c=>jR c vs H' Q) X
 | .bp e m es,ρ,H,Q,X=>dm e ρ H (λv H'=>∃κ,mk? v H'=some κ/\PK T κ m=true/\hM es ρ H' (λvs cI=>mk? v cI=some κ/\ke af w K T n v m vs cI Q X) X) X
 | .comp elt it cond,ρ,H,Q,X=>dm it ρ H (λv H'=>match v with
   | .ref a=>(match H' a with
     |some (.list vs)=>vs.length<=1000/\j8 (λv H Q=>dm elt (upd ρ 1000 v) H Q Ds) (λv H Q=>wpC cond (upd ρ 1000 v) H Q Ds) (λcI=>cI a=some (.list vs)) vs [] H' λcL cI=>∀c,cI c=none->Q (.ref c) (upd cI c (.list cL))
     |_=>False)
   |_=>False) X
 | .kg elt hi,ρ,H,Q,X=>dm hi ρ H (λv H'=>∃k,v=.int k/\0<=k/\k<=1000/\
   j8 (λv H Q=>dm elt (upd ρ 1000 v) H Q Ds) (λ_ H Q=>Q true H) (λ_=>True) (gK 0 k) [] H' λcL cI=>∀c,cI c=none->Q (.ref c) (upd cI c (.list cL))) X
 | .text ps,ρ,H,Q,X=>ps.length<=8/\hM ps ρ H (λvs H'=>(∀v∈vs,∃i,v=.int i/\big i)/\Q .text H') X
 | .JT,ρ,H,Q,_=>J6 (ρ 0) λv=>v=.ref (Ke K)/\∀c,H c=none->Q (.ref c) (upd H c (.list ((FR K).map V.int)))
def tG:E->Loc->Hp->(Bool->Hp->Prop)->(Addr->Hp->Prop)->Prop
 | .not e,ρ,H,Q,X=>tG e ρ H (λb H'=>Q (!b) H') X
 | .and es,ρ,H,Q,X=>Dm true es ρ H Q X
 | .or es,ρ,H,Q,X=>Dm false es ρ H Q X
 | .ite c a b,ρ,H,Q,X=>tG c ρ H (λt H'=>if t=true then tG a ρ H' Q X else tG b ρ H' Q X) X
 | .cmp op a b,ρ,H,Q,X=>dm a ρ H (λx H'=>dm b ρ H' (λy cI=>jH op x y cI λt=>Q t cI) X) X
 | .qL e neg,ρ,H,Q,X=>dm e ρ H (λv H'=>∃t,isNone v=some t/\Q (t !=neg) H') X
 | .cst v,_,H,Q,_=>fN v H λb=>Q b H
 | .loc i,ρ,H,Q,_=>J6 (ρ i) λv=>fN v H λb=>Q b H
 | .attr e k,ρ,H,Q,X=>dm e ρ H (λv H'=>yo v k H' λu=>fN u H' λb=>Q b H') X
 | .sub e i,ρ,H,Q,X=>dm e ρ H (λv H'=>dm i ρ H' (λj cI=>Av v j cI λu=>fN u cI λb=>Q b cI) X) X
 | .call c es,ρ,H,Q,X=>hM es ρ H (λvs H'=>match c with
   | .fn f=>aZ af w K n f vs H' (λv cI=>fN v cI λb=>Q b cI) X
   |_=>False) X
 | .bp e m es,ρ,H,Q,X=>dm e ρ H (λv H'=>∃κ,mk? v H'=some κ/\PK T κ m=true/\hM es ρ H' (λvs cI=>mk? v cI=some κ/\ke af w K T n v m vs cI (λv cI=>fN v cI λb=>Q b cI) X) X) X
 |_,_,_,_,_=>False
def wpC:Option E->Loc->Hp->(Bool->Hp->Prop)->(Addr->Hp->Prop)->Prop
 |none,_,H,Q,_=>Q true H
 |some e,ρ,H,Q,X=>tG e ρ H Q X
def QY:Option E->Loc->Hp->(Option Int->Hp->Prop)->(Addr->Hp->Prop)->Prop
 |none,_,H,Q,_=>Q none H
 |some e,ρ,H,Q,X=>dm e ρ H (λv H'=>∃k,v=.int k/\Q (some k) H') X
def hM:List E->Loc->Hp->(List V->Hp->Prop)->(Addr->Hp->Prop)->Prop
 |[],_,H,Q,_=>Q [] H
 |e::es,ρ,H,Q,X=>dm e ρ H (λv H'=>hM es ρ H' (λvs cI=>Q (v::vs) cI) X) X
def Hi:List E->Loc->Hp->(V->Hp->Prop)->(Addr->Hp->Prop)->Prop
 |[],_,_,_,_=>False
 |e::es,ρ,H,Q,X=>dm e ρ H (λv H'=>match es with
   |[]=>Q v H'
   |_::_=>fN v H' λb=>if b=true then Hi es ρ H' Q X else Q v H') X
def Ot:List E->Loc->Hp->(V->Hp->Prop)->(Addr->Hp->Prop)->Prop
 |[],_,_,_,_=>False
 |e::es,ρ,H,Q,X=>dm e ρ H (λv H'=>match es with
   |[]=>Q v H'
   |_::_=>fN v H' λb=>if b=true then Q v H' else Ot es ρ H' Q X) X
def Dm:Bool->List E->Loc->Hp->(Bool->Hp->Prop)->(Addr->Hp->Prop)->Prop
 |all,[],_,H,Q,_=>Q all H
 |all,e::es,ρ,H,Q,X=>tG e ρ H (λb H'=>if b=all then Dm all es ρ H' Q X else Q b H') X
end
def Cq:List Nat->List V->Loc->Loc
 |i::is,v::vs,ρ=>Cq is vs (upd ρ i v)
 |_,_,ρ=>ρ
def TP(step:Loc->Hp->(Loc->Hp->Prop)->Prop)(ρ:Loc)(H:Hp):Prop:=∀P:Loc->Hp->Prop,(∀ρ H,step ρ H P->P ρ H)->P ρ H
mutual
def wpS:S->Loc->Hp->(Fl->Loc->Hp->Prop)->(Addr->Hp->Prop)->Prop
 | .expr e,ρ,H,Q,X=>dm af w K T n e ρ H (λ_ H'=>Q .next ρ H') X
 | .bq i e,ρ,H,Q,X=>dm af w K T n e ρ H (λv H'=>Q .next (upd ρ i v) H') X
 | .cD o k e,ρ,H,Q,X=>dm af w K T n e ρ H (λv H'=>dm af w K T n o ρ H' (λx cI=>kX x k v cI λH3=>Q .next ρ H3) X) X
 | .hX o i e,ρ,H,Q,X=>dm af w K T n e ρ H (λv H'=>dm af w K T n o ρ H' (λx cI=>dm af w K T n i ρ cI (λj H3=>wj x j v H3 λH4=>Q .next ρ H4) X) X) X
 | .AF is e,ρ,H,Q,X=>dm af w K T n e ρ H (λv H'=>∃vs,v=.tup vs/\vs.length=is.length/\is.length<=8/\Q .next (Cq is vs ρ) H') X
 | .pK i op e,ρ,H,Q,X=>∃u,ρ i=some u/\dm af w K T n e ρ H (λv H'=>∃a b,u=.int a/\v=.int b/\kI op u v H' λr cI=>Q .next (upd ρ i r) cI) X
 | .Cg o k op e,ρ,H,Q,X=>dm af w K T n o ρ H (λx H'=>yo x k H' λu=>dm af w K T n e ρ H' (λv cI=>∃a b,u=.int a/\v=.int b/\kI op u v cI λr H3=>kX x k r H3 λH4=>Q .next ρ H4) X) X
 | .dp t a b,ρ,H,Q,X=>tG af w K T n t ρ H (λc H'=>if c=true then bN a ρ H' Q X else bN b ρ H' Q X) X
 | .o9 t b,ρ,H,Q,X=>TP (λρ H P=>tG af w K T n t ρ H (λc H'=>if c=true then bN b ρ H' (λfl eA cI=>match fl with
   | .next=>P eA cI
   | .brk=>Q .next eA cI
   | .ret v=>Q (.ret v) eA cI) X else Q .next ρ H') X) ρ H
 | .q9 x e b,ρ,H,Q,X=>dm af w K T n e ρ H (λv H'=>match v with
   | .ref a=>(match H' a with
     |some (.list vs)=>vs.length<=1000/\forL (λv ρ H Q=>bN b (upd ρ x v) H Q X) (λcI=>cI a=some (.list vs)) vs ρ H' Q
     |_=>False)
   |_=>False) X
 | .forR x lo hi b,ρ,H,Q,X=>QY af w K T n lo ρ H (λa H'=>dm af w K T n hi ρ H' (λv cI=>∃k,v=.int k/\0<=a.getD 0/\a.getD 0<=1000/\0<=k/\k<=1000/\forL (λv ρ H Q=>bN b (upd ρ x v) H Q X) (λ_=>True) (gK (a.getD 0) k) ρ cI Q) X) X
 | .ret none,ρ,H,Q,_=>Q (.ret .none) ρ H
 | .ret (some e),ρ,H,Q,X=>dm af w K T n e ρ H (λv H'=>Q (.ret v) ρ H') X
 | .brk,ρ,H,Q,_=>Q .brk ρ H
 | .pass,ρ,H,Q,_=>Q .next ρ H
 | .raise C e,ρ,H,_,X=>dm af w K T n e ρ H (λv H'=>v=.text/\X C H') X
 | .kL b C v,ρ,H,Q,_=>bN b ρ H Q λC' H'=>T.sub C' C=true/\∀eA,Q (.ret v) eA H'
 | .iG b C C2,ρ,H,Q,X=>bN b ρ H Q λC' H'=>T.sub C' C=true/\X C2 H'
 | .bad,_,_,_,_=>False
def bN:List S->Loc->Hp->(Fl->Loc->Hp->Prop)->(Addr->Hp->Prop)->Prop
 |[],ρ,H,Q,_=>Q .next ρ H
 |s::ss,ρ,H,Q,X=>wpS s ρ H (λfl eA H'=>match fl with| .next=>bN ss eA H' Q X|fl=>Q fl eA H') X
end
end
end
noncomputable def KP:E8->Nat×Nat×Nat
 | .fn a=>(0,a,0)
 | .cls a b=>(1,a,b)
 | .len=>(2,0,0)
 | .bytes=>(3,0,0)
 | .c9=>(4,0,0)
 | .sorted=>(5,0,0)
 | .tuple=>(6,0,0)
 | .list=>(7,0,0)
 | .sum=>(8,0,0)
 | .min=>(9,0,0)
noncomputable def Wh(p:Nat×Nat×Nat):E8:=match p.1 with
 |0=>.fn p.2.1
 |1=>.cls p.2.1 p.2.2
 |2=>.len
 |3=>.bytes
 |4=>.c9
 |5=>.sorted
 |6=>.tuple
 |7=>.list
 |8=>.sum
 |_=>.min
theorem ER(c:E8):Wh (KP c)=c:=by induction c using E8.casesOn<;>rfl
def Lg:Option GE->E8->Bool
 |some (.call c),d=>decide (KP c=KP d)
 |_,_=>false
theorem B2:Lg g c=true->g=some (.call c):=by
 induction g using tU with
 |none=>exact λh=>Bool.noConfusion h
 |some g=>
  induction g using GE.casesOn with
  |call d=>exact λh=>by refine' c_ (ER d) ?_;refine' aj (of_decide_eq_true h) ?_;rw[ER]
  |_=>exact λh=>Bool.noConfusion h
noncomputable def HR:Option GE->Int->Bool
 |some (.int c),d=>c==d
 |_,_=>false
theorem EU:HR g c=true->g=some (.int c):=by
 induction g using tU with
 |none=>exact λh=>Bool.noConfusion h
 |some g=>
  induction g using GE.casesOn with
  |int d=>exact λh=>by refine' aj (beq_iff_eq.mp h) ?_;rfl
  |_=>exact λh=>Bool.noConfusion h
noncomputable def E0:Option GE->Addr->Bool
 |some (.exc c),d=>c==d
 |_,_=>false
theorem wC:E0 g c=true->g=some (.exc c):=by
 induction g using tU with
 |none=>exact λh=>Bool.noConfusion h
 |some g=>
  induction g using GE.casesOn with
  |exc d=>exact λh=>by refine' aj (beq_iff_eq.mp h) ?_;rfl
  |_=>exact λh=>Bool.noConfusion h
noncomputable def Hs:Option GE->Bool
 |some .nC=>true
 |_=>false
theorem wR:Hs g=true->g=some .nC:=by
 induction g using tU with
 |none=>exact λh=>Bool.noConfusion h
 |some g=>
  induction g using GE.casesOn with
  |nC=>exact λ_=>rfl
  |_=>exact λh=>Bool.noConfusion h
noncomputable def isC:V->Bool
 | .none=>true
 | .bool _=>true
 | .int _=>true
 | .bytes _=>true
 |_=>false
noncomputable def Es:V->Const
 | .bool b=>.bool b
 | .int i=>.int i
 | .bytes b=>.bytes b
 |_=>.none
noncomputable def intOf:V->Int
 | .int i=>i
 |_=>0
noncomputable def isInt:V->Bool
 | .int _=>true
 |_=>false
noncomputable def abq:B_->Bool
 | .MatMult| .Div| .BitXor=>false
 |_=>true
noncomputable def HA:CmpOp->Bool
 | .Is| .IsNot| .In| .NotIn=>false
 |_=>true
noncomputable def wN:di->Bool
 | .Call f as ks _=>!(ip f.ctorIdx 23&&(as.isEmpty&&ks.isEmpty))
 |_=>true
noncomputable def rV(e:di):Bool:=!Nat.beq e.ctorIdx 26
noncomputable def dk(N:dJ):List (Str×dA)->dJ
 |[]=>[]
 |(x,.local)::r=>if x==(".0":Str) then dk N r else(x,.loc,1000)::dk N r
 |(x,.free)::r=>(match N.lookup x with|some (_,i)=>(x,.ro,i)::dk N r|none=>dk N r)
 |_::r=>dk N r
noncomputable def kdOf:Kd->dA
 | .loc=>.local
 | .cell=>.cell
 | .ro=>.cell
def DW(N:dJ)(sc:List (Str×dA)):Bool:=
 (N.all λp=>sc.lookup p.1==some (kdOf p.2.1) &&!(p.1==("__classdict__":Str))) &&N.all λp=>N.all λq=>(p.1==q.1) ==(p.2.2==q.2.2) &&((p.2.2 !=q.2.2) ||(match p.2.1,q.2.1 with| .loc,.loc| .cell,.cell| .ro,.ro=>true|_,_=>false))
noncomputable def nj(names:List (Str×dA)):List (Str×dA):=names.map λy=>(y.1,if y.2== .free then .cell else y.2)
noncomputable def Nx(N:dJ)(x:Str)(names:List (Str×dA)):Bool:=
 names.all (λy=>match y.2 with
  | .local=>y.1==(".0":Str) ||y.1==x
  | .free=>(match N.lookup y.1 with|some (.cell,_)=>true|_=>false)
  | .cell=>false
  | .globalExplicit=>false
  | .globalImplicit=>true) &&names.lookup x==some .local&&(names.all λy=>y.2 !=.local||names.lookup y.1==some .local) &&x !=(".0":Str)
noncomputable def HC:di->Bool
 | .Call .. =>true
 |_=>false
noncomputable def qh(e:di):Bool:=!Nat.beq e.ctorIdx 8
noncomputable def nA(e:di):Bool:=!(ip e.ctorIdx 22||(ip e.ctorIdx 7||(ip e.ctorIdx 9||ip e.ctorIdx 10)))
noncomputable def o1{α:Type}(f:α->Bool):Option α->Bool
 |some x=>f x
 |none=>false
theorem N6:∀{l:Option α},o1 f l=true->∃x,l=some x/\f x=true
 |some x,h=>⟨x,rfl,h⟩
noncomputable def qM(sc:List (Str×dA))(p:Option GE->Bool)(T:lu)(x:Str):Bool:=x !=("__debug__":Str) &&(sc.lookup x==some .globalImplicit&&p (T.glob x))
theorem i9(h:qM sc p T x=true):(x !=("__debug__":Str))=true/\(sc.lookup x==some .globalImplicit)=true/\p (T.glob x)=true:=
 have a:=ag.mp h
 ⟨a.1,ag.mp a.2⟩
def DV(N:dJ)(i:Nat)(x:Str):Bool:=x !=("__debug__":Str) &&o1 (λp=>i==p.2) (N.lookup x)
theorem z9(h:DV N i x=true):(x !=("__debug__":Str))=true/\∃k,N.lookup x=some (k,i):=by
 have a:=ag.mp h;erw[ay (N6 a.2),(p e q),<-⟨a.1,p.1,by erw[aj e,aj (beq_iff_eq.mp q)];rfl⟩]
noncomputable def aa5:Kd->Bool
 | .ro=>true
 |_=>false
noncomputable def Ra:Kd->Bool
 | .loc=>true
 |_=>false
def Ko(N:dJ)(i:Nat)(x:Str):Bool:=o1 (λp=>!aa5 p.1&&i==p.2) (N.lookup x)
theorem EG(h:Ko N i x=true):∃k,N.lookup x=some (k,i)/\k≠.ro:=by
 erw[ay (N6 h),(a e q)];rcases a with⟨k,j⟩
 have q:=ag.mp q;exact⟨k,by erw[aj e,aj (beq_iff_eq.mp q.2)];rfl,λz=>by subst z;cases q.1⟩
def D1(N:dJ)(i:Nat)(x:Str):Bool:=o1 (λp=>Ra p.1&&i==p.2) (N.lookup x)
theorem Ni(h:Ra k=true):k=.loc:=by induction k using Kd.casesOn<;>first|rfl|cases h
theorem vZ(h:D1 N i x=true):N.lookup x=some (.loc,i):=by
 erw[ay (N6 h),(a e q)];rcases a with⟨k,j⟩
 have q:=ag.mp q
 obtain rfl:k=.loc:=Ni q.1
 erw[aj e,aj (beq_iff_eq.mp q.2)];rfl
noncomputable def p0:Pos:=⟨0,0,0,0⟩
def x0:di:=.Name "" p0
structure VE where
 n:Str:= ""
 p:Pos:=p0
 a:di:=x0
 b:di:=x0
 c:di:=x0
 l:List di:=[]
 k:Nat:=0
 lo:Option di:=none
 hi:Option di:=none
 sc:Scope:=default
 g:tO:=⟨x0,x0,[],0⟩
 t:Nat:=0
noncomputable def cStr:Const->Str
 | .str x=>x
 |_=> ""
def hdG:List tO->tO
 |g::_=>g
 |[]=>⟨x0,x0,[],0⟩
def vE(x:di):VE:=@PySem.Expr.casesOn (λ_=>VE) x (λ_ l p=>{l,p}) (λ_ _ _=>{}) (λa _ b p=>{a,b,p}) (λ_ a p=>{a,p,t:=2}) (λ_ _ _ _=>{}) (λa b c p=>{a,b,c,p}) (λ_ _ _=>{}) (λ_ _ _=>{}) (λa g sc p=>{a,g:=hdG g,sc,p}) (λ_ _ _ _=>{}) (λ_ _ _ _ _=>{}) (λ_ _ _ _=>{}) (λ_ _=>{}) (λ_ _=>{}) (λ_ _=>{}) (λa _ l p=>{a,l,p}) (λa l _ p=>{a,l,p}) (λa _ _ p=>{a,p}) (λl p=>{l,p,t:=4}) (λc k p=>{n:=cStr c,k,p,t:=3}) (λa _ p=>{a,p}) (λa b p=>{a,b,p}) (λ_ _=>{}) (λn p=>{n,p,t:=1}) (λl p=>{l,p}) (λl k p=>{l,k,p}) (λlo hi _ p=>{lo,hi,p})
def ze(x:di):Str:=(vE x).n
def e_(x:di):Pos:=(vE x).p
def s1(x:di):di:=(vE x).a
def s2(x:di):di:=(vE x).b
def s3(x:di):di:=(vE x).c
def oW(x:di):List di:=(vE x).l
def kE(x:di):Nat:=(vE x).k
def Jd(x:di):Str:=(vE x).n
def loE(x:di):Option di:=(vE x).lo
def hiE(x:di):Option di:=(vE x).hi
def zg(x:di):Scope:=(vE x).sc
def p9(x:di):tO:=(vE x).g
def isNm(x:di):Bool:=ip (vE x).t 1
def Jl(x:di):Bool:=ip (vE x).t 2
def wX(x:di):Bool:=ip (vE x).t 3
def jq(x:di):Bool:=ip (vE x).t 4
def yL(l:List di):di:=l.headD x0
def pk(x:di):di:=.Name (ze x) (e_ x)
def toStr(x:di):di:=.Constant (.str (Jd x)) (kE x) (e_ x)
def EF:Nat->List di->List di
 |_,[]=>[]
 |k,p::ps=>if wX p=true then toStr p::EF k ps else(match k with
   |0=>[]
   |k+1=>.FormattedValue (pk (s1 p)) (-1) none (e_ p)::EF k ps)
def uJ(v:V)(x:di):di:=
 if isNm x=true then pk x else if Jl x=true then .UnaryOp .USub (.Constant (.int (-(intOf v))) (kE (s1 x)) (e_ (s1 x))) (e_ x) else .Constant (Es v) (kE x) (e_ x)
mutual
def jb:E->di->di
 | .cst v,x=>uJ v x
 | .loc _,x=>pk x
 | .and ms,x=>.BoolOp .And (w9 ms (oW x)) (e_ x)
 | .or ms,x=>.BoolOp .Or (w9 ms (oW x)) (e_ x)
 | .not m,x=>.UnaryOp .Not (jb m (s1 x)) (e_ x)
 | .ite c a b,x=>.IfExp (jb c (s1 x)) (jb a (s2 x)) (jb b (s3 x)) (e_ x)
 | .bin op a b,x=>.BinOp (jb a (s1 x)) op (jb b (s2 x)) (e_ x)
 | .cmp op a b,x=>.Compare (jb a (s1 x)) [op] [jb b (yL (oW x))] (e_ x)
 | .qL a neg,x=>.Compare (jb a (s1 x)) [if neg then .IsNot else .Is] [.Constant .none (kE (yL (oW x))) (e_ (yL (oW x)))] (e_ x)
 | .attr o k,x=>.Attribute (jb o (s1 x)) (atName k) (e_ x)
 | .sub o i,x=>.Subscript (jb o (s1 x)) (jb i (s2 x)) (e_ x)
 | .A4 o lo hi,x=>.Subscript (jb o (s1 x)) (.Slice (toO lo (loE (s2 x))) (toO hi (hiE (s2 x))) none (e_ (s2 x))) (e_ x)
 | .tup ms,x=>.Tuple (w9 ms (oW x)) (kE x) (e_ x)
 | .lst ms,x=>.List (w9 ms (oW x)) (e_ x)
 | .bp o m ms,x=>.Call (.Attribute (jb o (s1 (s1 x))) (Aa m) (e_ (s1 x))) (w9 ms (oW x)) [] (e_ x)
 | .call _ ms,x=>.Call (pk (s1 x)) (w9 ms (oW x)) [] (e_ x)
 | .kg elt hi,x=>.ListComp (jb elt (s1 x)) [⟨pk (p9 x).target,.Call (pk (s1 (p9 x).iter)) [jb hi (yL (oW (p9 x).iter))] [] (e_ (p9 x).iter),[],0⟩] (zg x) (e_ x)
 | .comp elt it c,x=>.ListComp (jb elt (s1 x)) [⟨pk (p9 x).target,jb it (p9 x).iter,toC c (p9 x).ifs,0⟩] (zg x) (e_ x)
 | .text ms,x=>if jq x=true then .JoinedStr (EF ms.length (oW x)) (e_ x) else(match ms with
   |m::_=>.BinOp (.Constant (.str ("no command is of kind %d":Str)) (kE (s1 x)) (e_ (s1 x))) .Mod (jb m (s2 x)) (e_ x)
   |[]=>toStr x)
 | .JT,x=>.Subscript (pk (s1 x)) (.Slice none (some (.Constant (.int 24) (kE ((hiE (s2 x)).getD x0)) (e_ ((hiE (s2 x)).getD x0)))) none (e_ (s2 x))) (e_ x)
def w9:List E->List di->List di
 |[],_=>[]
 |m::ms,xs=>jb m (yL xs)::w9 ms xs.tail
def toO:Option E->Option di->Option di
 |none,_=>none
 |some m,x=>some (jb m (x.getD x0))
def toC:Option E->List di->List di
 |none,_=>[]
 |some m,xs=>[jb m (yL xs)]
end
section
variable(T:lu)
def SJ(N:dJ)(sc:List (Str×dA))(x:Str):E->Bool
 | .loc i=>DV N i x
 | .cst v=>isInt v&&qM sc (HR · (intOf v)) T x
 |_=>false
def Mt(N:dJ)(sc:List (Str×dA)):List E->List di->Bool
 |ms,[]=>ms.isEmpty
 |ms,p::ps=>if wX p=true then decide ((Jd p).length<=1000) &&Mt N sc ms ps else(match ms with
   |[]=>false
   |m::ms=>SJ T N sc (ze (s1 p)) m&&Mt N sc ms ps)
def NS(sc:List (Str×dA))(v:V)(x:di):Bool:=
 if isNm x=true then isInt v&&qM sc (HR · (intOf v)) T (ze x) else if Jl x=true then isInt v else isC v
def Ru(N:dJ)(x:di):Bool:=(zg x).kind== .function&&(Nx N (ze (p9 x).target) (zg x).names&&DW (dk N (zg x).names) (nj (zg x).names))
mutual
def kH(N:dJ)(sc:List (Str×dA)):E->di->Bool
 | .cst v,x=>NS T sc v x
 | .loc i,x=>DV N i (ze x)
 | .and ms,x=>yY N sc ms (oW x)
 | .or ms,x=>yY N sc ms (oW x)
 | .not m,x=>kH N sc m (s1 x)
 | .ite c a b,x=>kH N sc c (s1 x) &&(kH N sc a (s2 x) &&kH N sc b (s3 x))
 | .bin op a b,x=>abq op&&(kH N sc a (s1 x) &&kH N sc b (s2 x))
 | .cmp op a b,x=>HA op&&(kH N sc a (s1 x) &&kH N sc b (yL (oW x)))
 | .qL a _,x=>kH N sc a (s1 x)
 | .attr o k,x=>decide (k<27) &&(wN (jb o (s1 x)) &&kH N sc o (s1 x))
 | .sub o i,x=>rV (jb i (s2 x)) &&(kH N sc o (s1 x) &&kH N sc i (s2 x))
 | .A4 o lo hi,x=>kH N sc o (s1 x) &&(okO N sc lo (loE (s2 x)) &&okO N sc hi (hiE (s2 x)))
 | .tup ms,x=>yY N sc ms (oW x)
 | .lst ms,x=>yY N sc ms (oW x)
 | .bp o m ms,x=>(e_ (s1 x)).endLine==(e_ x).line&&(decide (m<18) &&(wN (jb o (s1 (s1 x))) &&(decide ((w9 ms (oW x)).length<20) &&(kH N sc o (s1 (s1 x)) &&yY N sc ms (oW x)))))
 | .call c ms,x=>qM sc (Lg · c) T (ze (s1 x)) &&(decide ((w9 ms (oW x)).length<20) &&yY N sc ms (oW x))
 | .kg elt hi,x=>Ru N x&&(qM sc Hs T (ze (s1 (p9 x).iter)) &&(kH N sc hi (yL (oW (p9 x).iter)) &&kH (dk N (zg x).names) (nj (zg x).names) elt (s1 x)))
 | .comp elt it c,x=>Ru N x&&(kH N sc it (p9 x).iter&&(okC (dk N (zg x).names) (nj (zg x).names) c (p9 x).ifs&&kH (dk N (zg x).names) (nj (zg x).names) elt (s1 x)))
 | .text ms,x=>if jq x=true then decide (2<=(EF ms.length (oW x)).length) &&(decide ((oW x).length<=8) &&Mt T N sc ms (oW x)) else(match ms with
   |m::ms=>ms.isEmpty&&kH N sc m (s2 x)
   |[]=>decide ((Jd x).length<=1000))
 | .JT,x=>DV N 0 (ze (s1 x))
def yY(N:dJ)(sc:List (Str×dA)):List E->List di->Bool
 |[],_=>true
 |m::ms,xs=>kH N sc m (yL xs) &&yY N sc ms xs.tail
def okO(N:dJ)(sc:List (Str×dA)):Option E->Option di->Bool
 |none,_=>true
 |some m,x=>kH N sc m (x.getD x0)
def okC(N:dJ)(sc:List (Str×dA)):Option E->List di->Bool
 |none,_=>true
 |some m,xs=>kH N sc m (yL xs)
end
end
theorem tF(m:E)(x:di):nA (jb m x)=true:=by
 induction m using E.casesOn with
 |cst v=>
  show nA (uJ v x)=true;unfold uJ;cases isNm x
  ·cases Jl x<;>rfl
  ·rfl
 |text a=>
  induction a using lcs with
  |nil=>
   show nA (if jq x=true then .JoinedStr _ _ else toStr x)=true;cases jq x<;>rfl
  |cons m a=>
   show nA (if jq x=true then .JoinedStr _ _ else .BinOp _ _ _ _)=true;cases jq x<;>rfl
 |_=>rfl
structure VS where
 p:Pos:=p0
 e:di:=x0
 t:di:=x0
 b:List jD:=[]
 c:List jD:=[]
 h:ki:=.ExceptHandler none none [] p0
def hdH:List ki->ki
 |h::_=>h
 |[]=>.ExceptHandler none none [] p0
def vS(x:jD):VS:=@PySem.Stmt.casesOn (λ_=>VS) x (λ_ _ _ _ _ _ _ _ _ _=>{}) (λ_ _ _ _ _ _ _ _ _ _=>{}) (λ_ _ _ _ _ _ _ _ _ _ _=>{}) (λe p=>{e:=e.getD x0,p}) (λ_ _=>{}) (λt e p=>{t:=yL t,e,p}) (λ_ _ _ _ _ _ _=>{}) (λt _ e p=>{t,e,p}) (λ_ _ _ _ _=>{}) (λt e b _ p=>{t,e,b,p}) (λ_ _ _ _ _=>{}) (λe b _ p=>{e,b,p}) (λe b c p=>{e,b,c,p}) (λ_ _ _=>{}) (λ_ _ _=>{}) (λ_ _ _=>{}) (λe _ p=>{e:=e.getD x0,p}) (λb h _ _ p=>{b,h:=hdH h,p}) (λ_ _ _ _ _=>{}) (λ_ _ _=>{}) (λ_ _=>{}) (λ_ _ _ _=>{}) (λ_ _=>{}) (λ_ _=>{}) (λe p=>{e,p}) (λp=>{p}) (λp=>{p}) (λ_=>{})
def pI(s:jD):Pos:=(vS s).p
def eS(s:jD):di:=(vS s).e
def tS(s:jD):di:=(vS s).t
def bS(s:jD):List jD:=(vS s).b
def cS(s:jD):List jD:=(vS s).c
def hS(s:jD):ki:=(vS s).h
def htE:ki->di
 | .ExceptHandler (some t) _ _ _=>t
 |_=>x0
noncomputable def hpE:ki->Pos
 | .ExceptHandler _ _ _ p=>p
def O6:ki->jD
 | .ExceptHandler _ _ (s::_) _=>s
 |_=>.Pass p0
def hdS(l:List jD):jD:=l.headD (.Pass p0)
def zE:List Nat->List di->List di
 |[],_=>[]
 |_::is,xs=>pk (yL xs)::zE is xs.tail
def Ks(N:dJ):List Nat->List di->Bool
 |[],_=>true
 |i::is,xs=>D1 N i (ze (yL xs)) &&Ks N is xs.tail
mutual
def toS:S->jD->jD
 | .expr m,s=>.Expr (jb m (eS s)) (pI s)
 | .bq _ m,s=>.Assign [pk (tS s)] (jb m (eS s)) (pI s)
 | .cD o k m,s=>.Assign [.Attribute (jb o (s1 (tS s))) (atName k) (e_ (tS s))] (jb m (eS s)) (pI s)
 | .hX o i m,s=>.Assign [.Subscript (jb o (s1 (tS s))) (jb i (s2 (tS s))) (e_ (tS s))] (jb m (eS s)) (pI s)
 | .AF is m,s=>.Assign [.Tuple (zE is (oW (tS s))) (kE (tS s)) (e_ (tS s))] (jb m (eS s)) (pI s)
 | .pK _ op m,s=>.AugAssign (pk (tS s)) op (jb m (eS s)) (pI s)
 | .Cg o k op m,s=>.AugAssign (.Attribute (jb o (s1 (tS s))) (atName k) (e_ (tS s))) op (jb m (eS s)) (pI s)
 | .dp t a b,s=>.If (jb t (eS s)) (y7 a (bS s)) (y7 b (cS s)) (pI s)
 | .o9 t b,s=>.While (jb t (eS s)) (y7 b (bS s)) [] (pI s)
 | .q9 _ e b,s=>.For (pk (tS s)) (jb e (eS s)) (y7 b (bS s)) [] (pI s)
 | .forR _ lo hi b,s=>.For (pk (tS s)) (.Call (pk (s1 (eS s))) (match lo with
   |none=>[jb hi (yL (oW (eS s)))]
   |some lo=>[jb lo (yL (oW (eS s))),jb hi (yL (oW (eS s)).tail)]) [] (e_ (eS s))) (y7 b (bS s)) [] (pI s)
 | .ret none,s=>.Return none (pI s)
 | .ret (some m),s=>.Return (some (jb m (eS s))) (pI s)
 | .brk,s=>.Break (pI s)
 | .pass,s=>.Pass (pI s)
 | .raise _ m,s=>.Raise (some (.Call (pk (s1 (eS s))) [jb m (yL (oW (eS s)))] [] (e_ (eS s)))) none (pI s)
 | .kL b _ v,s=>.Try (y7 b (bS s)) [.ExceptHandler (some (pk (htE (hS s)))) none [.Return (some (.Constant (Es v) (kE (eS (O6 (hS s)))) (e_ (eS (O6 (hS s)))))) (pI (O6 (hS s)))] (hpE (hS s))] [] [] (pI s)
 | .iG b _ _,s=>.Try (y7 b (bS s)) [.ExceptHandler (some (pk (htE (hS s)))) none [.Raise (some (.Call (pk (s1 (eS (O6 (hS s))))) [toStr (yL (oW (eS (O6 (hS s)))))] [] (e_ (eS (O6 (hS s)))))) none (pI (O6 (hS s)))] (hpE (hS s))] [] [] (pI s)
 | .bad,s=>s
def y7:List S->List jD->List jD
 |[],_=>[]
 |m::ms,xs=>toS m (hdS xs)::y7 ms xs.tail
end
noncomputable def D2:B_->Bool
 | .Add=>true
 | .RShift=>true
 | .BitOr=>true
 |_=>false
section
variable(T:lu)(cj:Addr)
mutual
def okS(N:dJ)(sc:List (Str×dA)):Bool->S->jD->Bool
 |_,.expr m,s=>qh (jb m (eS s)) &&kH T N sc m (eS s)
 |_,.bq i m,s=>Ko N i (ze (tS s)) &&kH T N sc m (eS s)
 |_,.cD o k m,s=>decide (k<27) &&(kH T N sc o (s1 (tS s)) &&kH T N sc m (eS s))
 |_,.hX o i m,s=>rV (jb i (s2 (tS s))) &&(kH T N sc o (s1 (tS s)) &&(kH T N sc i (s2 (tS s)) &&kH T N sc m (eS s)))
 |_,.AF is m,s=>HC (jb m (eS s)) &&(Ks N is (oW (tS s)) &&kH T N sc m (eS s))
 |_,.pK i op m,s=>D2 op&&(Ko N i (ze (tS s)) &&kH T N sc m (eS s))
 |_,.Cg o k op m,s=>D2 op&&(decide (k<27) &&(kH T N sc o (s1 (tS s)) &&kH T N sc m (eS s)))
 |t,.dp e a b,s=>kH T N sc e (eS s) &&(y0 N sc t a (bS s) &&y0 N sc t b (cS s))
 |_,.o9 e b,s=>kH T N sc e (eS s) &&y0 N sc false b (bS s)
 |_,.q9 i e b,s=>D1 N i (ze (tS s)) &&(kH T N sc e (eS s) &&y0 N sc false b (bS s))
 |_,.forR i lo hi b,s=>D1 N i (ze (tS s)) &&(qM sc Hs T (ze (s1 (eS s))) &&((match lo with
   |none=>kH T N sc hi (yL (oW (eS s)))
   |some lo=>kH T N sc lo (yL (oW (eS s))) &&kH T N sc hi (yL (oW (eS s)).tail)) &&y0 N sc false b (bS s)))
 |_,.ret none,_=>true
 |_,.ret (some m),s=>kH T N sc m (eS s)
 |_,.brk,_=>true
 |_,.pass,_=>true
 |t,.raise C m,s=>t&&(qM sc (E0 · C) T (ze (s1 (eS s))) &&kH T N sc m (yL (oW (eS s))))
 |_,.kL b C v,s=>qM sc (E0 · C) T (ze (htE (hS s))) &&(isC v&&y0 N sc false b (bS s))
 |_,.iG b C C2,s=>(C !=cj&&C2==cj) &&(qM sc (E0 · C) T (ze (htE (hS s))) &&(qM sc (E0 · C2) T (ze (s1 (eS (O6 (hS s))))) &&(decide ((Jd (yL (oW (eS (O6 (hS s)))))).length<=1000) &&y0 N sc false b (bS s))))
 |_,.bad,_=>true
def y0(N:dJ)(sc:List (Str×dA)):Bool->List S->List jD->Bool
 |_,[],_=>true
 |t,m::ms,xs=>okS N sc t m (hdS xs) &&y0 N sc t ms xs.tail
end
end
variable{N:dJ}
def PV(K:fq)(N:dJ)(au:mA)(ρ:Loc)(B:Heap)(ak:List (Addr×Obj))(os:bL)(Q:V->Hp->Prop)(v:Value)(s':Shared):Prop:=
 ∃x H',cZ s'.heap v x/\Q x H'/\Sat K N au ρ B ak os H' s'
def PB(K:fq)(N:dJ)(au:mA)(ρ:Loc)(B:Heap)(ak:List (Addr×Obj))(os:bL)(Q:Bool->Hp->Prop)(b:Bool)(s':Shared):Prop:=
 ∃H',Q b H'/\Sat K N au ρ B ak os H' s'
theorem PV.int(S:Sat K N au ρ B ak os H s)(q:Q (.int i) H):PV K N au ρ B ak os Q (.int i t) {s with toks:=u}:=⟨_,H,.int i t,q,S.tok u⟩
theorem PV.bool(S:Sat K N au ρ B ak os H s)(q:Q (.bool b) H):PV K N au ρ B ak os Q (.bool b) s:=⟨_,H,.bool b,q,S⟩
theorem PV.bytes(S:Sat K N au ρ B ak os H s)(q:Q (.bytes b) H):PV K N au ρ B ak os Q (.bytes b.toArray t) {s with toks:=u}:=⟨_,H,by simpa using cZ.bytes b.toArray t,q,S.tok u⟩
theorem LJ(d:big a)(c:big b):IntMulOk a b:=by
 unfold IntMulOk;have h:∀{x:Int},big x->gf x<=400:=λ{x} hx=>by
  unfold gf
  split
  ·exact ia _
  ·rename_i rL;have h0:x.natAbs≠0:=λq=>rL (by simp[Int.natAbs_eq_zero.mp q]);exact(Bu h0).mpr hx
 have h1:=h d;have h2:=h c;have:Bv (gf a+gf b)=false:=by
  unfold Bv;have:¬((gf a:Int)+gf b>bitsLine):=by unfold bitsLine;exact λz=>FQ [(av,zn 400),(aX,zn 400),(zs (zn 134217728),zp av aX)] rt h1 h2 (aU.mp z)
  simpa using this
 erw[aj this];simp
theorem Fp(h:big b):Builtin.divisionGoesByPylong a b=false:=by
 erw[PyProof.noPylong_of_log2]
 by_cases h0:b.natAbs=0
 ·erw[aj h0];decide
 ·have:=(Bu h0).mpr h;exact P6 this rfl
theorem Sat.fresh(S:Sat K N au ρ B ak os H s):H s.heap.objs.size=none:=by
 cases e:H s.heap.objs.size with
 |none=>rfl
 |some m=>
  erw[ay ((S.h.rel.obj _ _ e).pC),(o a _),<-absurd (eQ a) (iH _)]
theorem none_at_size(h:Heap):h.get? h.objs.size=none:=by
 cases e:h.get? h.objs.size with
 |none=>rfl
 |some o=>exact absurd (eQ e) (iH _)
theorem kC.new(R:kC G H h)(k:∀b o,h.get? b=some o->h'.get? b=some o)(j:h.get? c=none)(p:ey (some mo)=false)(n:ub G h' c mo):kC G (upd H c mo) h':=by
 have i:=R.keep (ju.of_keeps k) (λ_ _=>id) (λ_ _ _=>id);have r:H c=none:=by
  cases e:H c with
  |none=>rfl
  |some m=>refine ay ((R.obj _ _ e).pC) ?_;intro o q _;rw[j] at q;injection q
 have inst:∀x,ey (upd H c mo x)=true->ey (H x)=true/\x≠c:=λx f=>by
  by_cases e:x=c
  ·subst e;rw[cX,p] at f;injection f
  ·rw[dr _ _ e] at f;exact⟨f,e⟩
 refine⟨λa m e=>?_,λx y d f l=>i.inj x y d (inst x f).1 (inst y l).1,λx d f g=>?_⟩
 ·by_cases q:a=c
  ·subst q;rw[cX] at e;injection e with e;subst e;exact n
  ·rw[dr _ _ q] at e;exact i.obj a m e
 ·have h1:=i.off x d (inst x f).1 g
  by_cases q:d=c
  ·subst q;exfalso;have e:=R.pN (S:=λ_=>False) (ju.of_keeps k) (eZ (inst x f).1) id;rw[e] at g;erw[ay (R.own (.inr ⟨x,(inst x f).1,g⟩)),(o q _)];rw[j] at q;injection q
  ·erw[aj (dr _ _ q),<-h1]
theorem FP.GD(R:kC G H h)(k:∀b o,h.get? b=some o->h'.get? b=some o)(i:ey (some mo)=false)(j:h.get? c=none)(f:FP (upd H c mo) h' a):a=c\/FP H h a:=by
 rcases f with f|⟨x,d,g⟩
 ·by_cases e:a=c
  ·exact .inl e
  ·rw[dr _ _ e] at f;exact .inr (.inl f)
 ·by_cases e:x=c
  ·subst e;rw[cX,i] at d;injection d
  ·rw[dr _ _ e] at d;have q:=R.pN (S:=λ_=>False) (ju.of_keeps k) (eZ d) id;rw[q] at g;exact .inr (.inr ⟨x,d,g⟩)
theorem hJ.new(S:hJ K B ak os H s)(k:∀b o,s.heap.get? b=some o->s'.heap.get? b=some o)(h:s.heap.get? c=none)(j:ey (some mo)=false)(n:ub (rU K) s'.heap c mo)(l:s'.gens=#[])(E:s'.os=os):hJ K B ak os (upd H c mo) s':=by
 have m:=S.grow k l E;refine⟨S.st,m.stays,S.rel.new k h j n,λa f=>?_,λp i=>?_,l,E⟩
 ·rcases FP.GD S.rel k j h f with rfl|f
  ·exact dG S.stays h
  ·exact S.nU a f
 ·erw[dY (m.ak p i),(a b d e),<-⟨a,λf=>?_,d,e⟩];rcases FP.GD S.rel k j h f with q|f
  ·erw[bf ((S.ak p i).2.2.2),(sl g)];rw[q,h] at g;injection g
  ·exact(S.ak p i).2.1 f
theorem Sat.new(S:Sat K N au ρ B ak os H s)(k:∀b o,s.heap.get? b=some o->s'.heap.get? b=some o)(d:s.heap.get? c=none)(l:ey (some mo)=false)(n:ub (rU K) s'.heap c mo)(p:s'.gens=#[])(E:s'.os=os):Sat K N au ρ B ak os (upd H c mo) s':=by
 refine⟨S.h.new k d l n p E,S.f.keep (ju.of_keeps k) ((ju.of_keeps k).tup λ_ _ _=>id) (λ_ _=>id) λa o f=>?_⟩;rcases FP.GD S.h.rel k l d f with rfl|f
 ·rcases o with rfl|⟨x,i,m,e⟩
  ·erw[ay S.f.ns,(_ q _),xH q,(o _ _ g _)];rw[d] at g;injection g
  ·erw[C8 (S.f.cell x i m),(r o j _ _ _ _ g _)];rw[e] at j;injection j with j;subst j;rw[d] at g;injection g
 ·exact S.f.AW o f
theorem Df(r:bU h aQ vs):ub G (h.push {cls:=.type "list",data:=.seq aQ.toArray}) h.objs.size (.list vs):=
 ⟨aQ,⟨⟨_,dw _ rfl,rfl,_,rfl⟩,by unfold sD;erw[aj (dw _ rfl)];rfl⟩,r.mono λ_ _ t=>t.push _⟩
theorem Sat.newList(S:Sat K N au ρ B ak os H s)(r:bU s.heap aQ vs):Sat K N au ρ B ak os (upd H s.heap.objs.size (.list vs)) {s with heap:=s.heap.push {cls:=.type "list",data:=.seq aQ.toArray}}:=
 S.new (λ_ _ e=>bB _ e) (none_at_size _) rfl (Df r) S.h.gens S.h.os
theorem PV.list(S:Sat K N au ρ B ak os H s)(r:bU s.heap aQ vs)(q:∀c,H c=none->Q (.ref c) (upd H c (.list vs))):
  PV K N au ρ B ak os Q (.ref s.heap.objs.size) {s with heap:=s.heap.push {cls:=.type "list",data:=.seq aQ.toArray}}:=⟨_,_,.ref _,q _ S.fresh,S.newList r⟩
theorem eV(S:Sat K N au ρ B ak os H s)(e:H a=some (.list vs)):∃b,s.heap.IsList a b.toArray/\bU s.heap b vs:=let⟨b,x,y⟩:=S.h.rel.obj a _ e;⟨b,x.1,y⟩
theorem RF(r:cZ s.heap va x)(S:Sat K N au ρ B ak os H s)(h:fN x H λb=>Q b H):bP (model af w) A (truthy va) (PB K N au ρ B ak os Q) Ex s:=by
 cases r with
 |none=>exact truthy_none ⟨H,h,S⟩
 |bool b=>exact wpAny_truthy_bool ⟨H,h,S⟩
 |int i t=>exact truthy_int ⟨H,h,S⟩
 |bytes b t=>exact h.elim
 |text=>exact h.elim
 |tup=>exact h.elim
 |ref a=>
  erw[ay (gh h),(v e h),ay (eV S e),(d hl c),<-wpAny_truthy_list hl (by simp;rw[c.length];exact ik (aw.mpr h.1) (dc rfl)) ⟨H,?_,S.tok _⟩];have:(!d.toArray.isEmpty)=!v.isEmpty:=by cases c<;>simp
  erw[aj this,<-h.2]
theorem JD(S:Sat K N au ρ B ak os H s)(h:b1.toList.length+b2.toList.length<=1000000/\Q (.bytes (b1.toList++b2.toList)) H):
  bP (model af w) A (binaryOp .Add (.bytes b1 t1) (.bytes b2 t2)) (PV K N au ρ B ak os Q) Ex s:=by
 rcases b1 with⟨l1⟩
 rcases b2 with⟨l2⟩
 exact bytes_add_K (by simp only[kO];exact aF h.1 (dc rfl)) rfl λt k=>PV.bytes S h.2
theorem Ju(S:Sat K N au ρ B ak os H s)(h:b1.toList≠[]/\2<=i/\i<=1000/\b1.toList.length<=1000/\Q (.bytes (kP i.toNat b1.toList).flatten) H):
  bP (model af w) A (binaryOp .Mult (.bytes b1 t1) (.int i t2)) (PV K N au ρ B ak os Q) Ex s:=by
 rcases b1 with⟨l1⟩
 erw[iE h,(h1 h2 h3 h4 h5),<-bytes_mul_K h1 h2 (oZ [(cN,yn 1000)] (cN,yn 1048576) rt h.2.2.1) ?_ rfl λt k=>PV.bytes S h5];have:=Nat.mul_le_mul (show l1.length<=1000 from h4) (aw.mp (oE [(cN,yn 1000),(dX,cN)] (dX,yn 1000) rt h.2.2.1 (aG (gT (oZ [(yn 2,cN)] (yn 0,cN) rt h.2.1)))));exact dM this rfl
theorem qS(q:wW x y f)(c:cZ h va x)(r:cZ h vb y):∃a b t u,va=.int a t/\vb=.int b u/\f a b:=by
 erw[dg (PO q),(a b i l q)];subst i;subst l;erw[bf c.inv,(t e1),bf r.inv,(u e2),<-⟨a,b,t,u,e1,e2,q⟩]
theorem BW(q:DR y f)(r:cZ h vb y):∃b u,vb=.int b u/\f b:=by
 erw[ay (Im q),(b p q)];subst p;erw[bf r.inv,(u e2),<-⟨b,u,e2,q⟩]
theorem Kl(S:Sat K N au ρ B ak os H s)(h:jZ H a λxs=>jZ H b λys=>xs.length+ys.length<=100000/\∀c,H c=none->Q (.ref c) (upd H c (.list (xs++ys)))):
  bP (model af w) A (binaryOp .Add (.ref a) (.ref b)) (PV K N au ρ B ak os Q) Ex s:=by
 erw[ay (gh h),(xs e1 h),ay (gh h),(ys e2 h),ay (eV S e1),(d l1 f),ay (eV S e2),(v l2 r)];have j:d.length+v.length<=iq:=by refine' aj f.length ?_;refine' aj r.length ?_;refine' aj sizeLine_eq ?_;have:=h.1;exact dK [(av,zn 100000)] (av,zn 16777216) rt h.1
 erw[cY (id l1),(u g l x)];rcases u with⟨cls,dd,data,sl⟩
 erw[bf x,(n k),cY (id l2),(C O m E)];rcases C with⟨ab7,dd2,data2,X4⟩
 erw[bf E,(i e)];subst l;subst k;subst m;subst e;erw[<-concat_meets ⟨_,g,rfl⟩ ⟨_,O,rfl⟩ noFill_list_add seq_list_add PySem.F.slot_list_add PySem.F.entry_list_add (PySem.F.args_list_add_2 _ _) (list_addW a b d.toArray v.toArray n i dd dd2 sl X4 (by simpa using j)) ⟨g,O,?_⟩,aj (show d.toArray++v.toArray=(d++v).toArray by simp),<-PV.list S (f.append r) h.2]
theorem aa8(c:cZ s.heap va x)(r:cZ s.heap vb y)(S:Sat K N au ρ B ak os H s)(h:kI op x y H Q):bP (model af w) A (binaryOp op va vb) (PV K N au ρ B ak os Q) Ex s:=by
 induction op using Operator.casesOn with
 |Add=>
  induction x using V.casesOn with
  |int a=>
   erw[bf c.inv,(t O)];subst O;erw[df (BW h r),(b u f h)];subst f;exact add_int (PV.int S h)
  |bytes a=>
   erw[df c.inv,(g t d z)];subst d;subst z
   induction y using V.casesOn with
   |bytes b=>
    erw[df r.inv,(W u P I)];subst P;subst I;exact JD S h
   |_=>exact h.elim
  |ref a=>
   have e:=c.inv;subst e
   induction y using V.casesOn with
   |ref b=>
    have e:=r.inv;subst e;exact Kl S h
   |_=>exact h.elim
  |_=>exact h.elim
 |Sub=>refine kJ (qS h c r) ?_;intro a b t u J L h;subst J;subst L;exact sub_int (PV.int S h)
 |Mult=>
  induction x using V.casesOn with
  |int a=>
   erw[bf c.inv,(t F)];subst F;erw[df (BW h r),(b u E h)];subst E;exact mul_int (PV.int S h.2.2) (LJ h.1 h.2.1)
  |bytes a=>
   erw[df c.inv,(g t G M)];subst G;subst M;erw[df (BW h r),(b u U h)];subst U;exact Ju S h
  |_=>exact h.elim
 |FloorDiv=>refine kJ (qS h c r) ?_;intro a b t u R k h;subst R;subst k;exact floordiv_int h.2.2.1 (PV.int S h.2.2.2) (.inl (Fp h.2.1))
 |Mod=>refine kJ (qS h c r) ?_;intro a b t u v p h;subst v;subst p;exact mod_int h.1 (PV.int S h.2)
 |Pow=>refine kJ (qS h c r) ?_;intro a b t u n o h;subst n;subst o;exact pow_int_small h.1 (by have:=h.2.1;exact zo2 h) h.2.2.1 (PV.int S h.2.2.2)
 |BitAnd=>refine kJ (qS h c r) ?_;intro a b t u m D h;subst m;subst D;exact and_int (PV.int S h)
 |BitOr=>refine kJ (qS h c r) ?_;intro a b t u l i h;subst l;subst i;exact or_int (PV.int S h)
 |LShift=>refine kJ (qS h c r) ?_;intro a b t u T j h;subst T;subst j;exact lshift_int_small h.1 (by have:=h.2.1;exact zo2 h) h.2.2.1 (PV.int S h.2.2.2)
 |RShift=>refine kJ (qS h c r) ?_;intro a b t u C q h;subst C;subst q;exact rshift_int h.1 (PV.int S h.2)
 |_=>exact h.elim
theorem all_true(l:List α):l.all (λ_=>true)=true:=by simp
theorem bU.at(h1:j<aQ.length)(h2:j<vs.length)(r:bU h aQ vs):cZ h aQ[j] vs[j]:=by
 erw[ay (r.get (bx h2)),(v e q)];rw[bx h1] at e;exact bV e▸q
open PySem.SeqAt in
theorem xT{n:Nat}{a vals2:List Value}{vs:List V}(r:bU s.heap a vs)(b:bU s.heap vals2 vs)(p:vs.all (plain n)=true)(i:∀{v u x},cZ s.heap v x->cZ s.heap u x->plain n x=true->EqAt A.in1 s v u true):∀j (h1:j<a.toArray.size) (h2:j<vals2.toArray.size),EqAt A.in1 s a.toArray[j] vals2.toArray[j] true:=by
 intro j h1 h2;have l1:=r.length;have h:j<vs.length:=by exact gP [(zs av,aX),(aX,bT)] (zs av,bT) rt h1 (aa l1)
 exact i (r.at h1 h) (b.at h2 h) (cJ.mp p _ (fP h))
open PySem.SeqAt in
theorem AB:∀(n:Nat)(A:Around),A.units+n<cLine->∀{v u:Value} {x:V},cZ s.heap v x->cZ s.heap u x->plain n x=true->EqAt A s v u true:=by
 have f:∀A {v u:Value} {x:V},cZ s.heap v x->cZ s.heap u x->plain 0 x=true->EqAt A s v u true:=λA v u x r c p=>by
  induction x using V.casesOn with
  |none=>
   have e:=r.inv;have e2:=c.inv;erw[aj e,aj e2,<-EqAt.same _]
  |bool b=>
   have e:=r.inv;have e2:=c.inv;have:=EqAt.bool_bool (A:=A) (s:=s) b b;rw[beq_self_eq_true] at this;erw[aj e,aj e2,<-this]
  |int i=>
   erw[bf r.inv,(t F)];subst F;erw[bf c.inv,(j D)];subst D;have:=EqAt.int_int (A:=A) (s:=s) i t i j;rwa [beq_self_eq_true] at this
  |bytes b=>
   erw[df r.inv,(L t B z)];subst B;subst z;erw[df c.inv,(K j q E)];subst q;exact λaf w Ex Q h=>eqBool_bytes (by erw[c_ E];simpa using h)
  |_=>exact Bool.noConfusion p
 intro n
 induction n with
 |zero=>exact λA _ {_ _ _}=>f A
 |succ n C=>
  intro A l v u x r c p
  induction x using V.casesOn with
  |tup J=>
   erw[dg r.inv,(a G o y g)];subst o;erw[dg c.inv,(H vals2 I d m)];subst I
   by_cases k:a=H
   ·erw[aj k,<-EqAt.same _]
   ·have:=RcAt.tuples y d (gP [(zs (zp av aX),bT)] (zs av,bT) rt l) (xT g m p λr c p=>C A.in1 (by exact gP [(zs (zp av (zs aX)),bT)] (zs (zp (zs av) aX),bT) rt l) r c p);erw[EqAt.of_refs k];rw[all_true,E1] at this;have l1:=g.length;have l2:=m.length
    rwa [show(G.toArray.size==vals2.toArray.size)=true by simp;exact zo3 l1 l2] at this
  |none=>exact f A r c p
  |bool b=>exact f A r c p
  |int i=>exact f A r c p
  |bytes b=>exact f A r c p
  |_=>exact Bool.noConfusion p
theorem NY(h:plain (n+1) (.tup vs)=true):vs.all (plain n)=true:=h
theorem eqS(d:A.units+20<cLine)(j:cZ s.heap va x)(i:cZ s.heap vb y)(S:Sat K N au ρ B ak os H s)(h:eqW x y H λb=>Q b H):
  bP (model af w) A (compareOp .Eq va vb) (λv s'=>∃b,v=.bool b/\PB K N au ρ B ak os Q b s') Ex s/\
  bP (model af w) A (compareOp .NotEq va vb) (λv s'=>∃b,v=.bool b/\PB K N au ρ B ak os Q (!b) s') Ex s:=by
 induction x using V.casesOn with
 |int a=>
  erw[bf j.inv,(t I)];subst I;erw[df (BW h i),(b u J h)];subst J;exact⟨eq_int ⟨_,rfl,H,h,S⟩,ne_int ⟨_,rfl,H,by simpa[bne] using h,S⟩⟩
 |bytes a=>
  erw[df j.inv,(E t C o)];subst C;subst o
  induction y using V.casesOn with
  |bytes b=>
   erw[df i.inv,(D u z M)];subst z;subst M;have h:Q (E.toList==D.toList) H:=h;exact⟨eq_bytes ⟨_,rfl,H,h,S⟩,ne_bytes ⟨_,rfl,H,by simpa[bne] using h,S⟩⟩
  |_=>exact h.elim
 |tup a=>
  induction y using V.casesOn with
  |tup b=>
   erw[cA h,(e p q)];replace e:=e.symm;subst e;erw[dg j.inv,(_ T G l k)];subst G;erw[dg i.inv,(_ vals2 F f n)];subst F;have l1:=k.length;have l2:=n.length;have g:=xT k n (NY p) λr c p=>AB 8 A.in1 (by exact fp [(zs (zk av 20),aX)] (zs (zk (zs av) 8),aX) rt d) r c p;refine⟨PySem.SeqAt.eq_tupleAt l f (zo4 d) g ⟨_,rfl,H,?_,S⟩,PySem.SeqAt.RcNeAt.tuples l f (zo4 d) g af w Ex _ ⟨_,rfl,H,?_,S⟩⟩
   ·rw[all_true,E1];simpa[l1,l2] using q
   ·rw[all_true,E1];simpa[l1,l2] using q
  |_=>exact h.elim
 |ref a=>
  induction y using V.casesOn with
  |ref b=>
   have e:=j.inv;have e2:=i.inv;subst e;subst e2;erw[ay (gh h),(O e1 h),fh (gh h),(ys e2 L p q)];subst L;erw[ay (eV S e1),(R h1 m),ay (eV S e2),(P h2 c)];have l1:=m.length;have l2:=c.length;have g:=xT m c p λr c p=>AB 9 A.in1 (by exact fp [(zs (zk av 20),aX)] (zs (zk (zs av) 9),aX) rt d) r c p;refine⟨PySem.SeqAt.eq_listAt h1 h2 (by simp;exact zo3 l1 l2) (zo4 d) g ⟨_,rfl,H,?_,S⟩,PySem.SeqAt.RcNeAt.lists h1 h2 (by simp;exact zo3 l1 l2) (zo4 d) g af w Ex _ ⟨_,rfl,H,?_,S⟩⟩
   ·rw[all_true];exact q
   ·rw[all_true];exact q
  |_=>exact h.elim
 |_=>exact h.elim
theorem Vp(d:A.units+20<cLine)(c:cZ s.heap va x)(r:cZ s.heap vb y)(S:Sat K N au ρ B ak os H s)(h:jH op x y H λb=>Q b H):
  bP (model af w) A (compareOp op va vb) (λv s'=>∃b,v=.bool b/\PB K N au ρ B ak os Q b s') Ex s:=by
 induction op using CmpOp.casesOn with
 |Eq=>exact(eqS d c r S h).1
 |NotEq=>
  erw[<-wpAny_mono (eqS (Q:=λb H=>Q (!b) H) d c r S h).2 (λv s' z=>?_) λ_ _ e=>e,ay z,(b e L),ay L,(m q j),<-⟨b,e,m,by simpa using q,j⟩]
 |Lt=>refine kJ (qS h c r) ?_;intro a b t u k l h;subst k;subst l;exact lt_int ⟨_,rfl,H,h,S⟩
 |LtE=>refine kJ (qS h c r) ?_;intro a b t u M U h;subst M;subst U;exact le_int ⟨_,rfl,H,h,S⟩
 |Gt=>refine kJ (qS h c r) ?_;intro a b t u R f h;subst R;subst f;exact gt_int ⟨_,rfl,H,h,S⟩
 |GtE=>refine kJ (qS h c r) ?_;intro a b t u i g h;subst i;subst g;exact ge_int ⟨_,rfl,H,h,S⟩
 |_=>exact h.elim
theorem NB(r:cZ s.heap v (.tup vs)):∃a b,v=.ref a/\q0 s.heap a b.toArray/\bU s.heap b vs:=by
 exact r.inv
theorem K_{l:List α}(h:l[k]?=some v):k<l.length:=(jk.mp h).1
theorem O5(h:MC vs i=some v)(h0:¬0<=i): -(vs.length:Int)<=i/\vs[(i+vs.length).toNat]?=some v:=by
 unfold MC at h;rw[if_neg h0] at h
 split at h
 ·exact⟨by assumption,h⟩
 ·injection h
theorem qi(h:rV slice=true)(o i:Value):subscripted slice false o i=operate [o,i] (getItem o i):=by
 induction slice using Expr.casesOn<;>first|rfl|cases h
theorem abN(y:rV slice=true)(p:cZ s.heap va x)(D:cZ s.heap vi i)(S:Sat K N au ρ B ak os H s)(h:Av x i H λu=>Q u H):
  bP (model af w) A (subscriptTail value slice va vi) (PV K N au ρ B ak os Q) Ex s:=by
 erw[df (BW h D),(k t I h)];subst I
 induction x using V.casesOn with
 |ref a=>
  have e:=p.inv;subst e;erw[cY (gh h),(n e f J),ay J,(v c q),ay (eV S e),(C hl r)];have o:=r.length;refine tail_any hl.typeIs Ca.lookup ?_ (qi y _ _)
  by_cases h0:0<=k
  ·unfold MC at c;rw[if_pos h0] at c;erw[ay (r.get c),(u d j)];have g:=K_ c;exact wpAny_getItem_list hl h0 (zo5 g f) (by simpa using d) ⟨_,H,j,q,S⟩
  ·erw[aD (O5 c h0),(m c),ay (r.get c),(u d j),<-wpAny_getItem_list_neg hl (oZ [(ys cN,yn 0)] (ys cN,yn 0) rt (mh.mp h0)) (by simp only[kO];rw[o];exact m) (n63 m f) ?_ ⟨_,H,j,q,S⟩,aj (show C.toArray.size=n.length by simpa using o)];simpa using d
 |tup n=>
  erw[cA h,(f h0 G),ay G,(v c q),dg p.inv,(_ C L z r)];subst L;have o:=r.length;erw[ay (r.get c),(u d j)];have g:=K_ c;erw[<-tail_any z.typeIs slot_tuple_getitem.lookup (getItem_tuple z (fO (dc rfl) h0) (zo5 g f) ?_ (by simpa using d) ⟨_,H,j,q,S⟩) (qi y _ _),aj (show(_:List Value).toArray.size=n.length by simpa using o)];have h2:k<n.length:=by exact jY [(cN,dX),(ys dX,fY)] (ys cN,fY) rt (iN _) (aU.mpr g)
  unfold seqIndex?
  simp[h0,h2,show ¬k<0 by exact zo6 h0]
 |bytes b=>
  erw[cA h,(f h0 F),ay F,(u d q),df p.inv,(U M T E)];rcases U with⟨l⟩
  subst T;subst E;have g:=K_ d;erw[<-tail_any (typeIs_bytes _ _ _) vD.lookup ?_ (qi y _ _),getItem_bytes (aF f (dc rfl)) h0 ((zy h0).mp g)];have:l.getD k.toNat 0=u:=by refine' aj (Dn) ?_;refine' aj (show l[k.toNat]?=some u from d) ?_;rfl
  erw[aj this,<-PV.int S q]
 |_=>exact h.elim
theorem kC.set(R:kC G H h)(e:H a=some mo)(j:ey (some mo)=ey (some mo'))(v:t=a\/(ey (some mo)=true/\sD h a=some t))(k:ju (· =t) h h')(o:ey (some mo)=true->sD h' a=sD h a)(F:ub G h' a mo'):
  kC G (upd H a mo') h'/\dN h h'/\∀b,FP (upd H a mo') h' b ↔ FP H h b:=by
 have ft:FP H h t:=by
  rcases v with rfl|⟨j,o⟩
  ·exact .inl (by erw[aj e];simp)
  ·exact .inr ⟨a,by erw[aj e,<-j],o⟩
 have T:=k.tup λx r E c=>by replace c:=c.symm;subst c;exact R.AL ft E
 have B:∀x,H x≠none->x≠a->x≠t:=λx c u s=>by
  subst s;rcases v with rfl|⟨j,o⟩
  ·exact u rfl
  ·exact c (R.off a x (aj e j) o)
 have i:∀x,ey (upd H a mo' x)=true->ey (H x)=true/\sD h' x=sD h x:=λx c=>by
  by_cases q:x=a
  ·subst q;rw[cX,<-j] at c;exact⟨by erw[aj e,<-c],o c⟩
  ·rw[dr _ _ q] at c;exact⟨c,R.pN k (eZ c) (B x (eZ c) q)⟩
 refine⟨⟨λx m q=>?_,λx y d c C p D=>?_,λx d c p=>?_⟩,T,λb=>?_⟩
 ·by_cases g:x=a
  ·subst g;rw[cX] at q;injection q with q;subst q;exact F
  ·rw[dr _ _ g] at q;refine k.CS T (B x (by erw[aj q];simp) g) (λd J n A=>?_) (R.obj x m q);replace A:=A.symm;subst A;rcases v with rfl|⟨w,z⟩
   ·have:=R.off x _ (aj q n) J;rw[e] at this;injection this
   ·exact g (R.inj x a _ (aj q n) (aj e w) J z)
 ·rw[(i x c).2] at p;rw[(i y C).2] at D;exact R.inj x y d (i x c).1 (i y C).1 p D
 ·rw[(i x c).2] at p;have:=R.off x d (i x c).1 p
  by_cases g:d=a
  ·subst g;rw[e] at this;injection this
  ·erw[aj (dr _ _ g),<-this]
 ·unfold FP
  constructor
  ·rintro (f|⟨x,c,J⟩)
   ·by_cases g:b=a
    ·subst g;exact .inl (by erw[aj e];simp)
    ·rw[dr _ _ g] at f;exact .inl f
   ·exact .inr ⟨x,(i x c).1,by erw[c_ ((i x c).2),<-J]⟩
  ·rintro (f|⟨x,c,J⟩)
   ·by_cases g:b=a
    ·subst g;exact .inl (by rw[cX];simp)
    ·exact .inl (aj (dr _ _ g) f)
   ·have l:ey (upd H a mo' x)=true:=by
     by_cases g:x=a
     ·subst g;rewrite[cX];erw[c_ j];rw[e] at c;exact c
     ·erw[aj (dr _ _ g),<-c]
    exact .inr ⟨x,l,by erw[aj ((i x l).2),<-J]⟩
theorem Sat.set(S:Sat K N au ρ B ak os H s)(e:H a=some mo)(d:ey (some mo)=ey (some mo'))(l:t=a\/(ey (some mo)=true/\sD s.heap a=some t))(k:eo t s.heap s'.heap)(g:ey (some mo)=true->sD s'.heap a=sD s.heap a)(m:ub (rU K) s'.heap a mo')(u:s'.gens=#[]:=by exact S.h.gens)(E:s'.os=os:=by exact S.h.os):
  Sat K N au ρ B ak os (upd H a mo') s':=by
 have ft:FP H s.heap t:=by
  rcases l with rfl|⟨d,g⟩
  ·exact .inl (by erw[aj e];simp)
  ·exact .inr ⟨a,by erw[aj e,<-d],g⟩
 have j:=ju.kB k;erw[cA (S.h.rel.set e d l j g m),(R T F)];have v:=S.h.nU t ft;have n:∀p∈ak,p.1≠t:=λp c q=>(S.h.ak p c).2.1 (q▸ft);refine⟨⟨S.h.st,λb o i=>?_,R,λb f=>S.h.nU b ((F b).mp f),λp c=>?_,u,E⟩,S.f.keep j T (λb o q=>S.f.AW o (by replace q:=q.symm;subst q;exact ft)) λb o f=>S.f.AW o ((F b).mp f)⟩
 ·have r:b≠t:=λq=>by replace q:=q.symm;subst q;rw[v] at i;injection i
  exact(k.2 b r).trans (S.h.stays b o i)
 ·erw[dY (S.h.ak p c),(z y x A),bf A,(sl w),<-⟨z,λf=>y ((F _).mp f),x,sl,(k.2 _ (n p c)).trans w⟩]
theorem LX(k:eo t h h')(n:a≠t):sD h' a=sD h a:=by unfold sD;refine' aj (k.2 a n) ?_;rfl
def si(h:Heap)(a:Addr)(items:Array Value):Prop:=∃n sl,h.get? a=some {cls:=.type "list",dict:=none,data:=.seq items n,slots:=sl}
theorem wY(x:ub G h a (.list vs)):∃b,si h a b.toArray/\bU h b vs:=by
 erw[ay x,(b S r),aD S,(i e),cY i,(f j l g)];rcases f with⟨c,d,dt,sl⟩
 erw[bf g,(n k),<-⟨b,⟨n,sl,?_⟩,r⟩];unfold sD at e;rw[j] at e;subst l;subst k;subst e;exact j
theorem si.CS(x:si h a aQ.toArray)(r:bU h aQ vs):ub G h a (.list vs):=by
 erw[gR x,(n sl b),<-⟨aQ,⟨⟨_,b,rfl,n,rfl⟩,by unfold sD;erw[aj b];rfl⟩,r⟩]
theorem si.isList(x:si h a Qr):h.IsList a Qr:=let⟨n,_,ho⟩:=x;⟨_,ho,rfl,n,rfl⟩
theorem si.update(x:si h a Qr)(f:Array Value->Array Value):si (h.update a (mj f)) a (f Qr):=by
 erw[gR x,(n sl b),<-⟨_,sl,(fg _ b rfl).trans rfl⟩]
theorem Sat.mapList(S:Sat K N au ρ B ak os H s)(e:H a=some (.list vs))(f:Array Value->Array Value)(g:f Qr=Wl.toArray)(hl:si s.heap a Qr)(r:bU s.heap Wl Fb):Sat K N au ρ B ak os (upd H a (.list Fb)) {s with heap:=s.heap.update a (mj f)}:=by
 have c:eo a s.heap (s.heap.update a (mj f)):=iI ..;have T:=ju.tup (ju.kB c) λx i d b=>by replace b:=b.symm;subst b;exact S.h.rel.AL (.inl (by erw[aj e];simp)) d
 exact S.set (mo':=.list Fb) e rfl (.inl rfl) c (λx=>by injection x) ((g▸hl.update f).CS (r.mono T))
open PySem.MeetsSeq in
theorem appendS(e:H a=some (.list vs))(f:vs.length<=100000)(b:cZ s.heap vv v)(S:Sat K N au ρ B ak os H s)(h:Q .none (upd H a (.list (vs++[v])))):
  bP (model af w) A (call (.builtin "list.append") [.ref a,vv]) (PV K N au ρ B ak os Q) Ex s:=by
 erw[ay (wY (S.h.rel.obj a _ e)),(i hl r)];have g:=r.length;have d:=S.mapList e (λx=>x.push vv) (by simp) hl (r.append (.cons b .nil));erw[gR (id hl),(n sl c),<-wpAny_call_entry slot_list_append hl.isList.typeIs entry_list_append ?_ (args_list_append _ _)];show bP _ _ (updateSeq a (·.push vv) >>= λ_=>ret .none) _ _ s;exact wpAny_bind (wpAny_updateSeq c rfl (wpAny_pure ⟨.none,rfl,.none,_,.none,h,d⟩))
theorem EL{l:Addr}{k:Int}(hl:si s.heap l items)(h0:0<=k)(W:k<2^63)(c:k<items.size)(h:Q () {s with heap:=s.heap.update l (mj (·.setIfInBounds k.toNat v))}):bP (model af w) A (setItem (.ref l) (.int k t) v) Q Ex s:=by
 erw[gR (id hl),(n sl b),<-wpAny_holding (wpAny_bind (wpAny_sequenceKey hl.isList.typeIs (dc rfl) ?_))];refine wpAny_bind (wpAny_callSpecial?_slot hl.isList.typeIs E2
  (wpAny_call_entry E2 hl.isList.typeIs PySem.entry_list_setitem ?_ (PySem.args_list_setitem _ _ _)))
 show bP _ _ (Builtin.List.listSubscript? (.int k t) >>= _) _ _ s;erw[<-wpAny_bind (wpAny_listSubscript_int (fitsIndex_of h0 W) ?_),bf (j4 h0),(j a)];subst a;have d:j<items.size:=by exact zo7 c
 erw[<-wpAny_bind (wpAny_bind (wpAny_seqItemAt b rfl (wpAny_pure ?_))),aj (Array.getElem?_eq_getElem d),<-wpAny_bind (wpAny_setSeqItemAt b rfl ?_)]
 first
  |exact wpAny_bind (wpAny_pure (wpAny_pure ⟨.none,rfl,wpAny_pure h⟩))
  |exact wpAny_pure ⟨.none,rfl,wpAny_pure h⟩
theorem L9(j:cZ s.heap va x)(g:cZ s.heap vi i)(f:cZ s.heap vv v)(S:Sat K N au ρ B ak os H s)(h:wj x i v H Q):
  bP (model af w) A (setItem va vi vv) (λ_ s'=>∃d,Q d/\Sat K N au ρ B ak os d s') Ex s:=by
 erw[df (BW h g),(k t b h)];subst b
 induction x using V.casesOn with
 |ref a=>
  have e:=j.inv;subst e;erw[Ud (gh h),(n e l h0 c q),ay (wY (S.h.rel.obj a _ e)),(o hl r)];have m:=r.length;exact EL hl h0 (oE [(ys cN,dX),(dX,yn 100000)] (ys cN,yn 9223372036854775808) rt c (aw.mpr l)) (by simp;exact jY [(ys cN,dX),(dX,fY)] (ys cN,fY) rt c (aG (ao (congrArg gX m)))) ⟨_,q,S.mapList e _ (by simp) hl (r.set k.toNat f)⟩
 |_=>exact h.elim
theorem Ga(l:Addr)(a:Array Value)(n:Nat)(sl:Array (Option Value))(i:Int)(u:Tok)(k:Nat)(y:Value)(W:Builtin.List.listFitsIndex i=true)(e:seqIndex? i a.size=some k)(b:a[k]?=some y)(P:a.size<=iq):
  Meets (Builtin.«list.pop» ⟨[.ref l,.int i u],[]⟩)
   (λ_ R s=>s.heap.get? l=some {cls:=.type "list",dict:=none,data:=.seq a n,slots:=sl}/\R (.ok (.ret y)) {s with heap:=s.heap.update l (mj λxs=>xs.eraseIdxIfInBounds k)}):=
 .of_wp λaf w A R s h=>by
  rcases s with⟨hp,g,d,tk,os⟩;refine aD h ?_;intro hl h
  have r:¬a.isEmpty=true:=by
   intro f;have:a.size=0:=by simpa using f
   simp[this] at b
  wp_walk using ud hl
  simp only[e,b,Option.bind_some,Option.map_some];have c:(a.eraseIdxIfInBounds k).size<=iq+1:=by
   unfold DA;split
   ·rw[Array.size_eraseIdx];exact gP [(av,aX),(bT,av)] (bT,zs aX) rt P (i5 _ _)
   ·exact U8 P
  wp_walk using(wpAny_updateSeq hl rfl),ud hl
  exact⟨_,rfl,h⟩
theorem aal(e:H a=some (.list vs))(j:vs.length<=100000)(S:Sat K N au ρ B ak os H s)(h0:0<=i)(d:vs[i.toNat]?=some v)(h:Q v (upd H a (.list (vs.eraseIdx i.toNat)))):bP (model af w) A (call (.builtin "list.pop") [.ref a,.int i t]) (PV K N au ρ B ak os Q) Ex s:=by
 erw[ay (wY (S.h.rel.obj a _ e)),(l hl r)];have g:=r.length;have f:i.toNat<vs.length:=by
  rcases Nat.lt_or_ge i.toNat vs.length with h|h
  ·exact h
  ·rw[uf h] at d;injection d
 erw[ay (r.get d),(u q o)];have y:=S.mapList e (λm=>m.eraseIdxIfInBounds i.toNat) (by
  unfold DA;erw[aj (dif_pos (by simp;exact zo9 f g))]
  simp) hl (r.eraseIdx i.toNat)
 erw[gR (id hl),(n sl k),<-call_meets E3 ⟨_,k,rfl⟩ PySem.F.entry_list_pop (PySem.F.args_list_pop_2 _ _) (Ga a l.toArray n sl i t i.toNat u (fitsIndex_of h0 (zo5 f j)) ?_ (by simpa using q) (by erw[aj sizeLine_eq];simp;exact lM g j rfl)) ⟨k,_,_,?_,h,y⟩]
 ·unfold seqIndex?
  simp[h0,show ¬i<0 by exact zo6 h0,show i<l.length by exact Al [(cN,dX),(ys dX,fY),(fY,vH)] (ys cN,vH) rt (iN _) (aU.mpr f) (aG (ao (congrArg gX g)))]
 ·exact o.mono (ju.tup (ju.kB (iI ..)) λx b p c=>by replace c:=c.symm;subst c;exact S.h.rel.AL (.inl (by erw[aj e];simp)) p)
theorem xC(l:List α)(lo c:Option Int)(h1:sP lo)(h2:sP c):
  (l.drop (lo.elim 0 (clipAt l.length))).take (c.elim l.length (clipAt l.length)-lo.elim 0 (clipAt l.length))=cut l lo c:=by
 have cl:∀{i:Int},0<=i->clipAt l.length i=min i.toNat l.length:=λ{i} h=>by
  erw[bf (j4 h),(j d)];subst d;rw[clipAt_nat];rfl
 have k:∀a b,(l.drop (min a l.length)).take (min b l.length-min a l.length)=(l.take b).drop a:=by
  erw[(a b),aj List.drop_take];rcases IC a l.length with h|h
  ·erw[aj (fc h)];rcases IC b l.length with h'|h'
   ·erw[aj (fc h')];rfl
   ·erw[aj (mf h'),aj (d6 (by simp)),aj (d6 (by simp;exact aw.mp (jY [(cN,dX),(dX,fY)] (cN,fY) rt (aw.mpr h') (aw.mpr (iZ qQ)))))];rfl
  ·erw[aj (mf h),aj (List.drop_of_length_le h)];simp
 unfold cut
 induction lo using tU with
 |none=>
  induction c using tU with
  |none=>simp
  |some b=>
   simp only[Hb,cl h2.1]
   simpa using this
 |some a=>
  induction c using tU with
  |none=>
   simp only[Hb,cl h1.1];have:=k a.toNat l.length
   simpa using this
  |some b=>
   simp only[Hb,cl h1.1,cl h2.1];exact k a.toNat b.toNat
theorem bU.cut(r:bU h aQ vs)(lo a:Option Int):bU h (Mine.cut aQ lo a) (Mine.cut vs lo a):=by
 induction a using tU<;>exact bU.drop _ (by first|exact r|exact r.take _)
theorem aaD{lo c:Option Int}(l:cZ s.heap va x)(n:IsPart vl lo)(m:IsPart vu c)(S:Sat K N au ρ B ak os H s)(h:Kn x lo c H Q):
  bP (model af w) A (subscriptTail value (.Slice lower upper none p) va (.ref s.heap.objs.size)) (PV K N au ρ B ak os Q) Ex {s with heap:=s.heap.push {cls:=.type "slice",data:=.fields #[vl,vu,.none]}}:=by
 have j:=S.push {cls:=.type "slice",data:=.fields #[vl,vu,.none]};erw[cA h,(h1 h2 h)]
 induction x using V.casesOn with
 |ref a=>
  have e:=l.inv;subst e;erw[cY (gh h),(y e f q),ay (eV j e),(v hl r)];have u:=r.length;refine tail_any hl.typeIs Ca.lookup (wpAny_getItem_list_slice hl (rq _ _ _ _) n m .none (by simp) ?_ (by erw[aj sizeLine_eq];simp;exact lM u f rfl)) rfl;rw[slicePick_plain];have:=xC v lo c h1 h2;erw[aj this,<-PV.list j (r.cut lo c) q]
 |bytes b=>
  erw[aD h,(f q),df l.inv,(d t i g)];subst i;subst g;have o:PySem.W.KBy.picked d lo c=(Mine.cut d.toList lo c).toArray:=by
   rw[PySem.W.KBc.picked_eq];have:=xC d.toList lo c h1 h2;erw[aj this];rfl
  erw[<-tail_any (typeIs_bytes _ _ _) vD.lookup ?_ rfl,<-getItem_meets (typeIs_bytes _ _ _) (dc rfl) vD FB.entry_bytes_getitem (FB.args_bytes_getitem_2 _ _) (PySem.W.KBc.meets_slice2 d t _ n m) ⟨rq _ _ _ _,?_,λz k=>?_⟩]
  ·erw[aF (PySem.W.KBc.size_picked_le d lo c)];have:d.size<=1000000:=by simpa using f
   exact dM this rfl
  ·erw[aj o,<-PV.bytes j q]
 |_=>exact h.elim
theorem GO:∀{i j:Nat},i<27->j<27->atName i=atName j->i=j:=by
 have:∀i,i<27->∀j,j<27->atName i=atName j->i=j:=by decide+kernel
 erw[(i j a b c),<-this i a j b c]
theorem SQ:xD [] k v=[(k,v)]:=rfl
theorem NC:xD ((j,u)::r) k v=if k==j then(j,v)::r else(j,u)::xD r k v:=rfl
theorem I7(f:List (Nat×V))(k j:Nat)(v:V):AM (xD f k v) j=if j=k then some v else AM f j:=by
 unfold AM
 induction f with
 |nil=>
  erw[aj SQ,aj dB,aj List.lookup_nil]
  by_cases h:j=k
  ·subst h;simp
  ·erw[aj (show(j==k)=false by simpa using h),aj (if_neg h)];rfl
 |cons p r a=>
  rcases p with⟨i,u⟩
  erw[aj NC]
  by_cases h:k=i
  ·subst h;erw[aj (if_pos (beq_self_eq_true k)),aj dB,aj dB]
   by_cases h2:j=k
   ·subst h2;simp
   ·erw[aj (show(j==k)=false by simpa using h2),aj (if_neg h2)];rfl
  ·erw[aj (if_neg (by simpa using h)),aj dB,aj dB,aj a]
   by_cases h2:j=i
   ·subst h2;simp[show ¬j=k from λe=>h e.symm]
   ·erw[aj (show(j==i)=false by simpa using h2)];rfl
theorem DH(f:List (Nat×V))(k:Nat)(v:V):(xD f k v).length=if(AM f k).isSome then f.length else f.length+1:=by
 unfold AM
 induction f with
 |nil=>rfl
 |cons p r a=>
  rcases p with⟨i,u⟩
  erw[aj NC]
  by_cases h:k=i
  ·subst h;erw[aj dB];rewrite[beq_self_eq_true];rfl
  ·erw[aj (if_neg (by simpa using h)),aj dB,aj aV,aj a];simp only[show(k==i)=false by simpa using h]
   split<;>simp
theorem EX{hash:Int}{o:Obj}(j:o.data=.dict es n)(f:StrKeys es):
  ∃p g,(o.putName name hash (.str name t) v).data=.dict p g/\(o.putName name hash (.str name t) v).cls=o.cls/\(o.putName name hash (.str name t) v).dict=o.dict/\StrKeys p/\
   p.size=(if(nsFind es name).isSome then es.size else es.size+1)/\∀x,nsFind p x=if x=name then some v else nsFind es x:=by
 rcases o with⟨c,d,dt,sl⟩
 subst j;cases a:es.findIdx? (·.key.isStr name) with
 |some i=>
  have W:(nsFind es name).isSome=true:=by
   unfold nsFind findBy;cases b:es.find? (·.key.isStr name) with
   |some e=>rfl
   |none=>
    rw[Array.find?_eq_none] at b;erw[ay (Array.findIdx?_eq_some_iff_getElem.mp a),(h1 h2 _),<-absurd h2 (by simpa using b _ (Array.getElem_mem h1))]
  refine⟨es.modify i λe=>{e with val:=v},n,by simp only[kV,ir,a],by simp only[kV,ir,a],by simp only[kV,ir,a],f.modify _ _,?_,λx=>?_⟩
  ·erw[aj (if_pos W),aj Array.size_modify];rfl
  ·exact findBy_modify (λn v=>v.isStr n) Value.isStr_inj es name x v i a
 |none=>
  have Y:(nsFind es name).isSome=false:=by
   unfold nsFind findBy;cases b:es.find? (·.key.isStr name) with
   |none=>rfl
   |some e=>
    exact absurd (Array.find?_some b) (by simpa using(Array.findIdx?_eq_none_iff.mp a e (Array.mem_of_find?_eq_some b)))
  refine⟨es.push ⟨hash,.str name t,v⟩,n+1,by simp only[kV,ir,a],by simp only[kV,ir,a],by simp only[kV,ir,a],f.push _ _ _ _,?_,λx=>?_⟩
  ·erw[aj Y,aj (if_neg (dc rfl))];rw[Array.size_push]
  ·exact findBy_push (λn v=>v.isStr n) es name x _ _ v (λy=>by
    show(name==y)=decide (y=name)
    by_cases h:y=name
    ·subst h;simp
    ·have:¬name=y:=λe=>h e.symm
     simp[h,this]) a
theorem nV.put(D:nV h d fs)(g:k<27){hash:Int}(e:h'=h.update d (Obj.putName (atName k) hash (.str (atName k) t) vv))(T:dN h h')(r:cZ h vv v):nV h' d (xD fs k v):=by
 erw[vk D,(o E n A C B z u m y),Cz (EX (name:=atName k) (hash:=hash) (t:=t) (v:=vv) B z),(p s e1 e2 e3 e4 e5 e6)];have a:=m k g;refine⟨_,p,s,?_,e2.trans C,e1,e4,?_,λj l=>?_,λx b=>?_⟩
 ·erw[aj e,<-fg _ A (Obj.isFreed_of_dict e1)]
 ·erw[aj e5];rewrite[DH];erw[aj u];cases q:AM fs k with
  |none=>rw[q] at a;refine' aj a ?_;rfl
  |some x=>rw[q] at a;refine ay a ?_;intro w f _;refine' aj f ?_;rfl
 ·rw[I7,e6]
  by_cases q:j=k
  ·subst q;erw[aj (if_pos rfl),aj (if_pos rfl),<-⟨vv,rfl,r.mono T⟩]
  ·erw[aj (if_neg q),aj (if_neg λe=>q (GO l g e))];have:=m j l;cases i:AM fs j with
   |none=>rw[i] at this;exact this
   |some x=>rw[i] at this;refine ay this ?_;intro w f c;exact⟨w,f,c.mono T⟩
 ·rewrite[e6];erw[aj (if_neg (b k g)),<-y x b]
theorem yG(c:o.data=.dict es n)(a:StrKeys es):lookIn name o=some (nsFind es name):=by
 unfold lookIn nsFind findBy;erw[aj c];dsimp only;erw[c_ (Array.find?_toList)];cases d:es.toList.find? (·.key.isStr name) with
 |some e=>rfl
 |none=>
  have:es.toList.any (·.refKey)=false:=by
   rw[y9];erw[(e b),gR (a e (Array.mem_toList_iff.mp b)),(n t h)];simp[IG,h]
  simp[this]
theorem Ji(r:cZ h v x):handedIn v=true:=by cases r<;>rfl
structure Good(K:fq)(C:Addr):Prop where
 ga:findIn K (.ref C) "__getattribute__"=some (some (.builtin "object.__getattribute__"))
 gn:findIn K (.ref C) "__getattr__"=some none
 hd:hasDictIn K C=true
 po:plainOver K C=true
 sa:findIn K (.ref C) "__setattr__"=some (some (.builtin "object.__setattr__"))
 nm:∀k,k<27->findIn K (.ref C) (atName k)=some none/\takerIn K C (atName k)=some none
theorem Good.of(h:rU K C=true):Good K C:=by
 unfold rU plainGet at h;simp only[Bool.and_eq_true,beq_iff_eq,cJ] at h;erw[aD h,(e _),aD e,(i h6),aD i,(l h5),aD l,(p h4),aD p,(u h3),aD u,(h1 h2),<-⟨h1,h2,h3,h4,h5,λk b=>?_⟩];have a:AT.getD k "" ∈AT:=by
  erw[aj (Dn)];have:=b;erw[aj (bx this),<-fP this]
 exact h6 _ a
theorem Sat.Be(S:Sat K N au ρ B ak os H s):K.In s.heap:=S.h.st.Be.keeps S.h.stays
theorem zh(S:Sat K N au ρ B ak os H s)(e:H a=some (.inst C fs)):
  ∃c d b,Good K C/\InstAt s.heap a c C (some b)/\c.dict=some d/\sD s.heap a=some d/\s.heap.get? d=some b/\nV s.heap d fs:=by
 erw[aD (S.h.rel.obj a _ e),(j x),iB x,(o d f i g Q D),xH (id D),(b k n J _),<-⟨o,d,b,Good.of j,⟨f,i,?_,?_⟩,Q,?_,J,D⟩]
 ·unfold notCls;erw[aj g];rfl
 ·erw[aj Q,<-J]
 ·unfold sD;erw[aj f,<-Q]
theorem attrS(g:cZ s.heap va x)(S:Sat K N au ρ B ak os H s)(h:yo x k H λu=>Q u H):
  bP (model af w) A (getAttr va (atName k) expr) (PV K N au ρ B ak os Q) Ex s:=by
 erw[nh (Ii h),(a C U z e f E)];subst z;erw[ay E,(v i q)];have t:=g.inv;subst t;erw[td (zh S e),(F d M G I R p J D),vk D,(o V n b T y l O m P)];rw[J] at b;injection b with b;subst b
 have:=m k f;rw[i] at this;erw[ay this,(u j r),ay (any_some G.hd),(cd c L),<-get_value S.Be I G.ga ?_ (Ji r) ⟨_,H,r,q,S.tok _⟩];unfold findObj;erw[aj c,aj ((G.nm k f).1)];show Option.bind (PySem.W.ownOf _ _ _) _=_;unfold PySem.W.ownOf;erw[aj L];dsimp only;erw[aj (yG y l),aj j];rfl
theorem aaH(L:cZ s.heap vv v)(S:Sat K N au ρ B ak os H s)(e:H a=some (.inst C fs))(E:k<27)(hz:fs.length<=100)(q:∀s',Sat K N au ρ B ak os (upd H a (.inst C (xD fs k v))) s'->R (.ok (.ret .none)) s'):codeAny (model af w) A (.call (.builtin "object.__setattr__") ⟨[.ref a,.str (atName k) tk,vv],[]⟩) R s:=by
 erw[td (zh S e),(M d od G I U g J D),osa_open S.Be I G.po (G.nm k E).2,(b),ay (any_some G.hd),(cd r LZ)];have f:=I.at_;have J0:=I.cls;rcases M with⟨oc,odi,oda,osl⟩
 subst J0;subst U;erw[<-wpAny_bind (wpAny_pure (wpAny_bind (wpAny_bind (wpAny_loadPart f (wpAny_bind ((looks_clsIn S.Be r).here ?_)))))),aj LZ,<-wpAny_pure (wpAny_bind (wpAny_pure (wpAny_bind ?_))),<-wpAny_bind (wpAny_bind (wpAny_askSetting (wpAny_pure (wpAny_bind (wpAny_mkText (wpAny_bind (wpAny_loadPart J ?_))))))),vk D,(o u n j V F z p hf i)];rw[J] at j;injection j with j;subst j
 erw[aj F];dsimp only;have c:(!u.any (·.key.isStr (atName k)) &&u.any (·.refKey))=false:=by
  have:u.any (·.refKey)=false:=by
   rw[Array.any_eq_false'];erw[(e Q),gR (z e Q),(n t h)];simp[IG,h]
  erw[aj this];rw[Dp]
 rewrite[aRefKeyMayBeTheName_at];erw[aj c,wpAny_updatePart J,Cz (EX (name:=atName k) (hash:=Bw w.params (atName k)) (t:=s.toks) (v:=vv) F z),(pS n' e1 e2 e3 e4 e5 e6)];have l:eo d s.heap (s.heap.update d (Obj.putName (atName k) (Bw w.params (atName k)) (.str (atName k) s.toks) vv)):=iI ..;have y:a≠d:=λq=>by replace q:=q.symm;subst q;rw[J] at f;injection f with f;subst f;injection V
 have T:=ju.tup (ju.kB l) λx m P i=>by replace i:=i.symm;subst i;exact S.h.rel.AL (.inr ⟨a,by erw[aj e];rfl,g⟩) P
 erw[<-wpAny_bind (wpAny_lookBehind (fg _ J (Obj.isFreed_of_dict e1)) (aj e1 (pastItsLine_dict (by erw[aj e5,aj p,aj sizeLine_eq];split<;>lia))) ?_),wpAny_pure,aD (S.h.rel.obj a _ e),(W DJ),iB DJ,(o2 d2 O Bf Y X _)];rw[f] at O;injection O with O;subst O
 refine q _ (S.set (mo':=.inst C (xD fs k v)) e rfl (.inr ⟨rfl,g⟩) l (λ_=>LX l y) ⟨W,_,d,(l.2 a y).trans f,rfl,Y,rfl,D.put E rfl T L⟩)
theorem Er(f:cZ s.heap va x)(r:cZ s.heap vv v)(S:Sat K N au ρ B ak os H s)(h:kX x k v H Q):
  bP (model af w) A (setAttr va (atName k) vv) (λ_ s'=>∃b,Q b/\Sat K N au ρ B ak os b s') Ex s:=by
 erw[zD (Ii h),(a C t c e i g q)];subst c;have l:=f.inv;subst l;erw[td (zh S e),(o d n G I p j J D),<-set_plain S.Be I G.sa (aaH r (S.tok _) e i g λs' m=>⟨_,q,m⟩)]
variable{sc:List (Str×dA)}
structure O4(N:dJ)(sc:List (Str×dA)):Prop where
 kd:∀x k i,(x,k,i)∈N->sc.lookup x=some (kdOf k)/\(x==("__classdict__":Str))=false
 fn:∀x k i k' j,(x,k,i)∈N->(x,k',j)∈N->k=k'/\i=j
 inj:∀x y k k' i,(x,k,i)∈N->(y,k',i)∈N->x=y
theorem O4.of(h:DW N sc=true):O4 N sc:=by
 have h:=ag.mp h;have h1:=cJ.mp h.1;have h2:=λp c q b=>ag.mp (cJ.mp (cJ.mp h.2 p c) q b);have e:∀p∈N,∀q∈N,(p.1==q.1)=(p.2.2==q.2.2):=λp c q b=>beq_iff_eq.mp (h2 p c q b).1;refine⟨λx k i m=>?_,λx k i d j m a=>?_,λx y k d i m a=>beq_iff_eq.mp ((e _ m _ a).trans (beq_self_eq_true i))⟩
 ·have z:=ag.mp (h1 _ m);exact⟨beq_iff_eq.mp z.1,(Bool.not_eq_true' _).mp z.2⟩
 ·have z:=beq_iff_eq.mp ((e _ m _ a).symm.trans (beq_self_eq_true x));erw[<-⟨?_,z⟩,<-(nE.mp (h2 _ m _ a).2).elim (λq=>absurd z (bne_iff_ne.mp q)) λq=>?_]
  induction k using Kd.casesOn<;>induction d using Kd.casesOn<;>first|rfl|(injection q)
theorem mem_of_lookup[BEq α][LawfulBEq α]{l:List (α×β)}(h:l.lookup x=some y):(x,y)∈l:=by
 induction l with
 |nil=>injection h
 |cons p r i=>
  rcases p with⟨a,b⟩
  rw[dB] at h
  split at h
  ·rename_i e;injection h with h;subst h;refine' aj (beq_iff_eq.mp e) ?_;exact kf
  ·exact fV (i h)
structure cU(sc:List (Str×dA))(N:dJ)(au:mA)(A:Around)(l:List mA)(ak:List (Addr×Obj))(n:Nat):Prop where
 kind:au.scope.kind=.function
 names:au.scope.names=sc
 JZ:O4 N sc
 glob:au.globals=mainGlobals
 blt:au.builtins=nG
 ar:Xb A l n
 fr:∃L,au.frame=some L
 ne:l≠[]
 frs:∀e∈l,e.scope.kind≠.module/\∃L,e.frame=some L/\(L=au.locals\/∃p∈ak,p.1=L)
theorem Sat.Up(O:O4 N sc)(S:Sat K N au ρ B ak os H s)(m:(x,Kd.loc,i)∈N)(D:cZ s.heap vv v)(hm:s.heap.Ns au.locals mm)(J:∀x k i,(x,k,i)∈N->k=.loc->∀v,ρ i=some v->∃val,mm x=some val/\cZ s.heap val v)(M:s'.heap.Ns au.locals λy=>if y=x then some vv else mm y)(t:eo au.locals s.heap s'.heap)(Q:s'.gens=#[]:=by exact S.h.gens)(E9:s'.os=os:=by exact S.h.os):
  Sat K N au (upd ρ i v) B ak os H s':=by
 have k:=ju.kB t;have T:=k.tup λa g r e=>by subst e;exact S.f.vc (.inl rfl) g r
 have h1:∀a,FP H s.heap a->¬a=au.locals:=λa f e=>S.f.off (e▸f);have SH:hJ K B ak os H s':=by
  refine S.h.keep k (λb o w=>?_) h1 (λa g r e=>by subst e;exact S.f.vc (.inl rfl) g r) (λp L e=>S.f.out p L e) Q E9;have E:b≠au.locals:=λq=>by replace q:=q.symm;subst q;rw[S.f.nU] at w;injection w
  exact(t.2 b E).trans (S.h.stays b o w)
 have C:=S.h.rel.qj k h1;have n:∀{y k j},(y,k,j)∈N->y≠x->j≠i:=λ{y k j} d ne e=>by subst e;exact ne (O.inj _ _ _ _ _ d m)
 have Y:∀{y k j},(y,k,j)∈N->k≠.loc->y≠x:=λ{y k j} d ne e=>by replace e:=e.symm;subst e;exact ne (O.fn _ _ _ _ _ d m).1
 refine⟨SH,⟨⟨_,M,λy k j d P u l=>?_⟩,S.f.nU,λf=>S.f.off ((C _).mp f),S.f.out,λy j d=>?_,S.f.inj,λy j d u l=>?_⟩⟩
 ·by_cases e:y=x
  ·replace e:=e.symm;subst e;erw[aD (O.fn _ _ _ _ _ d m),(_ z)];replace z:=z.symm;subst z;rw[cX] at l;injection l with l;subst l
   exact⟨vv,if_pos rfl,D.mono T⟩
  ·rw[dr _ _ (n d e)] at l;erw[ay (J y k j d P u l),(val e1 e2),<-⟨val,by erw[aj (if_neg e),<-e1],e2.mono T⟩]
 ·erw[iB (S.f.cell y j d),(c F a1 A a3 X I),cA I,(W V G),ay G];intro v? a8 a9;refine⟨c,F,a1,A,a3,λf=>X ((C _).mp f),W,(t.2 c A).trans V,v?,a8,λu l=>?_⟩;rw[dr _ _ (n d (Y d (λh=>by injection h)))] at l;erw[ay (a9 u l),(val U R),<-⟨val,U,R.mono T⟩]
 ·rw[dr _ _ (n d (Y d (λh=>by injection h)))] at l;exact S.f.ro y j d u l
theorem Sat.setCell(O:O4 N sc)(S:Sat K N au ρ B ak os H s)(m:(x,Kd.cell,i)∈N)(rv:cZ s.heap vv v)(w:au.cells.lookup x=some c)(hn:s'.heap.IsCell c (some vv))(z:eo c s.heap s'.heap)(hg:s'.gens=#[]:=by exact S.h.gens)(E9:s'.os=os:=by exact S.h.os):
  Sat K N au (upd ρ i v) B ak os H s':=by
 have t:Own N au c:=.inr ⟨x,i,m,w⟩;erw[iB (S.f.cell x i m),(c' oc A V U R pE),cA pE,(Q a6 X),ay X];intro v? a8 a9;rw[w] at A;injection A with A;subst A
 have k:=ju.kB z;have T:=k.tup λa g F e=>by replace e:=e.symm;subst e;exact S.f.vc t g F
 have h1:∀a,FP H s.heap a->¬a=c:=λa f e=>R (e▸f);have SH:hJ K B ak os H s':=by
  refine S.h.keep k (λb o I=>?_) h1 (λa g F e=>by replace e:=e.symm;subst e;exact S.f.vc t g F) (λp hp e=>Q p hp e) hg E9;have D:b≠c:=λq=>by replace q:=q.symm;subst q;rw[U] at I;injection I
  exact(z.2 b D).trans (S.h.stays b o I)
 have L:=S.h.rel.qj k h1;have r:∀{y k j},(y,k,j)∈N->y≠x->j≠i:=λ{y k j} d ne e=>by replace e:=e.symm;subst e;exact ne (O.inj _ _ _ _ _ d m)
 have Y:∀{y k j},(y,k,j)∈N->k≠.cell->y≠x:=λ{y k j} d ne e=>by replace e:=e.symm;subst e;exact ne (O.fn _ _ _ _ _ d m).1
 erw[ay S.f.ns,(mm tT hv),<-⟨SH,⟨⟨mm,tT.sameBut z (aJ V),λy k j d M u l=>?_⟩,S.f.nU,λf=>S.f.off ((L _).mp f),S.f.out,λy j d=>?_,S.f.inj,λy j d u l=>?_⟩⟩]
 ·rw[dr _ _ (r d (Y d (λh=>by subst M;injection h)))] at l;erw[ay (hv y k j d M u l),(n e1 e2),<-⟨n,e1,e2.mono T⟩]
 ·by_cases e:y=x
  ·replace e:=e.symm;subst e;erw[aD (O.fn _ _ _ _ _ d m),(_ C)];replace C:=C.symm;subst C;erw[ay hn,(o' W G),<-⟨c,o',w,V,U,λf=>R ((L _).mp f),Q,W,_,G,λu l=>?_⟩];rw[cX] at l;injection l with l;subst l
   exact⟨vv,rfl,rv.mono T⟩
  ·erw[iB (S.f.cell y j d),(J E P b2 b3 b4 CW),cA CW,(b5 b6 Ec),ay Ec];intro v2? b8 b9;have D:J≠c:=λq=>by replace q:=q.symm;subst q;exact e (S.f.inj _ _ _ _ _ d m P w)
   refine⟨J,E,P,b2,b3,λf=>b4 ((L _).mp f),b5,(z.2 J D).trans b6,v2?,b8,λu l=>?_⟩;rw[dr _ _ (r d e)] at l;erw[ay (b9 u l),(n e1 e2),<-⟨n,e1,e2.mono T⟩]
 ·rw[dr _ _ (r d (Y d (λh=>by injection h)))] at l;exact S.f.ro y j d u l
def below(au:mA)(ak:List (Addr×Obj))(H:Hp)(h:Heap):Heap:=qz (Hid ak H h (· =au.locals)) h
theorem Sat.Dg(S:Sat K N au ρ B ak os H s):∃o,hJ K (below au ak H s.heap) ((au.locals,o)::ak) os H s/\B.StaysIn (below au ak H s.heap)/\dN s.heap (below au ak H s.heap)/\s.heap.get? au.locals=some o:=by
 erw[ay S.f.ns,(m D l),nh D,(o j k b g n q)];have c:∀a,a=au.locals->B.get? a=none:=λa e=>by subst e;exact S.f.nU
 have R:=S.h.raise (· =au.locals) c;refine⟨o,⟨R.st,R.stays,R.rel,R.nU,λp hp=>?_,R.gens,R.os⟩,S.h.up _ c,S.h.wy (λa e i d=>by subst e;exact S.f.vc (.inl rfl) i d),b⟩;rcases bE.mp hp with rfl|hp
 ·exact⟨mT (.inr (.inl rfl)),S.f.off,⟨j,k,g⟩,o.slots,b⟩
 ·exact R.ak p hp
theorem Sat.rT(S:Sat K N au ρ B ak os H s)(J:s.heap.get? au.locals=some o)(g:hJ K (below au ak H s.heap) ((au.locals,o)::ak) os H' s'):Sat K N au ρ B ak os H' s'/\dN s.heap s'.heap:=by
 have O:∀a,a=au.locals->B.get? a=none:=λa e=>by replace e:=e.symm;subst e;exact S.f.nU
 have up:=S.h.up (P:=(· =au.locals)) O;have T:dN s.heap s'.heap:=λa d n=>dN.of_stays g.stays _ _ (S.h.wy (λa e d n=>by subst e;exact S.f.vc (.inl rfl) d n) _ _ n);erw[ay S.f.ns,(G F I),nh F,(o' Q R w M t L)];rw[J] at w;injection w with w;subst w
 erw[dY (g.ak (au.locals,o) kf),(b1 Y b3 E),bf E,(sl X)];refine⟨⟨⟨S.h.st,λb z e=>g.stays b z (up b z e),g.rel,λa f=>dG up (g.nU a f),λp r=>?_,g.gens,g.os⟩,
  ⟨⟨G,⟨_,Q,R,X,M,t,L⟩,λx k i m t v l=>?_⟩,S.f.nU,Y,S.f.out,λx i m=>?_,S.f.inj,S.f.ro⟩⟩,T⟩
 ·erw[cA (g.ak p (fV r)),(W V U),<-⟨dG up W,V,U⟩]
 ·erw[ay (I x k i m t v l),(j e1 e2),<-⟨j,e1,e2.mono T⟩]
 ·erw[iB (S.f.cell x i m),(c y a1 C a3 a4 D),cA D,(A a6 C_),ay C_];intro v? a8 a9;have u:(below au ak H s.heap).get? c=some y:=(jy _ _ _ _).mpr ⟨λq=>by
   rcases q with f|f|⟨p,r,e⟩
   ·exact a4 f
   ·exact C f
   ·exact A p r e,a6⟩
  refine⟨c,y,a1,C,a3,λf=>?_,A,g.stays _ _ u,v?,a8,λv l=>?_⟩
  ·rw[g.nU c f] at u;injection u
  ·erw[ay (a9 v l),(j e1 e2),<-⟨j,e1,e2.mono T⟩]
variable{n:Nat}
def xP(K:fq)(x:Str)(v:Value):Prop:=nsIn K mainGlobals x=some (some v)\/(nsIn K mainGlobals x=some none/\bootBuiltins x=some v/\x≠ "__name__")
noncomputable def G_:E8->Value
 | .fn f=>.ref f
 | .cls C _=>.ref C
 | .len=>.builtin "len"
 | .bytes=>.type "bytes"
 | .c9=>.type "bytearray"
 | .sorted=>.builtin "sorted"
 | .tuple=>.type "tuple"
 | .list=>.type "list"
 | .sum=>.builtin "sum"
 | .min=>.builtin "min"
def ND(K:fq):E8->Prop
 | .fn f=>IF K (.ref f)=true
 | .cls C i=>IF K (.ref C)=true/\makesIn K C=true/\findIn K (.ref C) "__init__"=some (some (.ref i))/\isFn K (.ref i)=true/\rU K C=true
 |_=>True
structure TabsOk(T:lu)(K:fq):Prop where
 call:∀x c,T.glob x=some (.call c)->xP K x (G_ c)/\ND K c
 int:∀x i,T.glob x=some (.int i)->∃t,xP K x (.int i t)
 exc:∀x C,T.glob x=some (.exc C)->nsIn K mainGlobals x=some (some (.ref C))/\∃bmB newId,excIn K C bmB newId=true
 nC:∀x,T.glob x=some .nC->xP K x (.type "range")
 bp:∀C m f,T.bp C m=some f->findIn K (.ref C) (Aa m)=some (some (.ref f))/\isFn K (.ref f)=true/\IF K (.ref f)=true
 JT:∃aQ:Array Value,(∀h,K.In h->h.IsList (Ke K) aQ)/\(∀v∈aQ.toList,∃i t,v=.int i t)/\FR K=(aQ.toList.take 24).map Pu/\aQ.size<=63
theorem cU.ofName(O:cU sc N au A l ak n)(h:N.lookup x=some (k,i)):(x,k,i)∈N/\au.kindOf x=some (kdOf k)/\(x==("__classdict__":Str))=false:=by
 have m:=mem_of_lookup h;erw[aD (O.JZ.kd _ _ _ m),(a b),<-⟨m,by unfold pd;erw[aj O.names,<-a],b⟩]
theorem Hq(O:cU sc N au A l ak n)(S:Sat K N au ρ B ak os H s)(h:N.lookup x=some (k,i))(b:ρ i=some v)(q:∀g,cZ s.heap g v->Q g s):
  bP M A (loadName au x) Q Ex s:=by
 erw[cA (O.ofName h),(m d F)]
 induction k using Kd.casesOn with
 |loc=>
  erw[ay S.f.ns,(E y z),ay (z x _ i m rfl v b),(a e1 e2),<-wpAny_loadName_local O.kind d y e1 (q _ e2)]
 |cell=>
  erw[iB (S.f.cell x i m),(c o e r p j C),cA C,(G D w),ay w];intro v? a8 a9;erw[ay (a9 v b),(a u e2)];subst u;exact wpAny_loadName_cell O.kind d e ⟨o,D,a8⟩ (q _ e2)
 |ro=>
  erw[dg (S.f.ro x i m v b),(c a e t j),ay t,(o r p),<-wpAny_loadName_cell O.kind d e ⟨o,S.h.stays _ _ r,p⟩ (q _ (j.mono (dN.of_stays S.h.stays)))]
theorem xX(O:cU sc N au A l ak n)(S:Sat K N au ρ B ak os H s)(h:N.lookup x=some (k,i))(j:k≠.ro)(r:cZ s.heap vv v)(q:∀s',Sat K N au (upd ρ i v) B ak os H s'->Q () s'):bP M A (storeName au x vv) Q Ex s:=by
 erw[cA (O.ofName h),(m a y)]
 induction k using Kd.casesOn with
 |loc=>
  erw[ay S.f.ns,(w b g),<-wpAny_storeName_local a b (λp h1 h2=>q _ (S.Up O.JZ m r b g h1 h2)) (aj O.kind rfl)]
 |cell=>
  erw[iB (S.f.cell x i m),(c o d E D C u),cA u,(z t e),ay e];intro v? a8 a9;exact wpAny_storeName_cell O.kind a d ⟨o,t,a8⟩ λp h1 h2=>q _ (S.setCell O.JZ m r d h1 h2)
 |ro=>exact absurd rfl j
theorem yK(O:cU sc N au A l ak n)(S:Sat K N au ρ B ak os H s)(j:(x !=("__debug__":Str))=true)(i:(sc.lookup x==some .globalImplicit)=true)(h:xP K x v)(q:Q v s):
  bP M A (eval (.Name x pos) au) Q Ex s:=by
 erw[vg S.h.st.top,(p d m f T)];have a:au.kindOf x=some .globalImplicit:=by unfold pd;refine' aj O.names ?_;exact beq_iff_eq.mp i
 have c:(x==("__debug__"))=false:=by simpa[bne] using j
 have e:s.heap.Ns au.globals m:=by refine' aj O.glob ?_;exact T.g.keeps S.h.stays
 have k:s.heap.Ns au.builtins f:=by refine' aj O.blt ?_;exact T.b.keeps S.h.stays
 rcases h with h|⟨h1,h2,h3⟩
 ·exact oB O.kind a (E4 e (mg_of S.h.st.Be T.g h) q) c
 ·exact oB O.kind a (Calls.loadGlobal_builtin e (mg_none_of S.h.st.Be T.g h1) k ((T.builtins x h3).trans h2) q) c
def PE(K:fq)(N:dJ)(au:mA)(ρ:Loc)(B:Heap)(ak:List (Addr×Obj))(os:bL)(l:List mA)(X:Addr->Hp->Prop)(e:Value)(s':Shared):Prop:=
 ∃ea C,∃_:Unit,∃H',e=.ref ea/\X C H'/\Sat K N au ρ B ak os H' s'/\Way B l ea (.ref C) .none s'.heap
theorem PE.ref(h:PE K N au ρ B ak os l X e s'):∃a,e=.ref a:=by refine Rj h ?_;intro a _ _ _ e _;exact⟨a,e⟩
theorem Sat.frames(S:Sat K N au ρ B ak os H s)(O:cU sc N au A l ak n):Ai l ((au.locals,o)::ak):=λe d=>by
 erw[aD (O.frs e d),(a C),ay C,(L b c),<-⟨a,L,b,?_⟩];rcases c with rfl|⟨p,h,e⟩
 ·exact⟨_,kf,rfl⟩
 ·exact⟨p,fV h,e⟩
theorem QA(O:cU sc N au A l ak n)(S:Sat K N au ρ B ak os H s)(r:bU s.heap aQ vs)(h:aZ af w K n f vs H Q X):
  bO (model af w) A (call (.ref f) aQ) (PV K N au ρ B ak os Q) (PE K N au ρ B ak os l X) s:=by
 erw[fh S.Dg,(o j st T c),<-sI (kR (h _ _ os l A s aQ O.ar.ar (S.frames O) j (r.mono T)) λr k z=>?_)];rcases r with e|(v|_|_|_)
 ·erw[iR z,(g C i b e1 x a F),<-⟨g,C,i,b,e1,x,(S.rT c a).1,Way.down st F⟩]
 ·exact z
 ·exact z
 ·exact z
 ·erw[dg z,(x b d q a),<-⟨x,b,d,q,(S.rT c a).1⟩]
variable{T:lu}
def PG{α:Type}(K:fq)(N:dJ)(au:mA)(ρ:Loc)(B:Heap)(ak:List (Addr×Obj))(os:bL)(Q:α->Heap->Hp->Prop)(a:α)(s':Shared):Prop:=
 ∃H',Q a s'.heap H'/\Sat K N au ρ B ak os H' s'
def QV(Q:V->Hp->Prop)(v:Value)(h:Heap)(H:Hp):Prop:=∃x,cZ h v x/\Q x H
def QVs(k:Nat)(Q:List V->Hp->Prop)(v:List Value)(h:Heap)(H:Hp):Prop:=∃x,bU h v x/\x.length=k/\Q x H
def QB(Q:Bool->Hp->Prop)(b:Bool)(_:Heap)(H:Hp):Prop:=Q b H
theorem PV.g(h:PV K N au ρ B ak os Q v s'):PG K N au ρ B ak os (QV Q) v s':=by refine dg h ?_;intro x H r q S;exact⟨H,⟨x,r,q⟩,S⟩
theorem PE.down(S:Sat K N au ρ B ak os H s)(k:B.StaysIn B')(h:PE K N au ρ B' ak os l X e s'):PE K N au ρ B ak os l X e s':=by
 erw[iR h,(a C b d e1 x c F),<-⟨a,C,b,d,e1,x,S.down k c,Way.down k F⟩]
theorem i6(S:Sat K N au ρ B ak os H s)(h:∀d,Sat K N au ρ d ak os H s->bO M A t (PG K N au ρ d ak os Qa) (PE K N au ρ d ak os l X) s)(k:∀a s' c,Qa a s'.heap c->Sat K N au ρ B ak os c s'->dN s.heap s'.heap->G a s'):bO M A t G (PE K N au ρ B ak os l X) s:=
 p_mono (h _ S.raise) (λa s'=>bI λc q f=>k a s' c q (S.down S.stays f) λb i g=>dN.of_stays f.h.stays _ _ (S.wy _ _ g)) λe s' x=>x.down S S.stays
def SE(af:eE)(w:bY)(K:fq)(T:lu)(n:Nat)(N:dJ)(au:mA)(A:Around)(l:List mA)(ak:List (Addr×Obj))(os:bL)(m:E)(t:Sem Value):Prop:=
 ∀ρ B H s Q X,Sat K N au ρ B ak os H s->dm af w K T n m ρ H Q X->bO (model af w) A t (PG K N au ρ B ak os (QV Q)) (PE K N au ρ B ak os l X) s
def Ad(af:eE)(w:bY)(K:fq)(T:lu)(n:Nat)(N:dJ)(au:mA)(A:Around)(l:List mA)(ak:List (Addr×Obj))(os:bL)(ms:List E)(t:Sem (List Value)):Prop:=
 ∀ρ B H s Q X,Sat K N au ρ B ak os H s->hM af w K T n ms ρ H Q X->bO (model af w) A t (PG K N au ρ B ak os (QVs ms.length Q)) (PE K N au ρ B ak os l X) s
def ST(af:eE)(w:bY)(K:fq)(T:lu)(n:Nat)(N:dJ)(au:mA)(A:Around)(l:List mA)(ak:List (Addr×Obj))(os:bL)(m:E)(t:Sem Bool):Prop:=
 ∀ρ B H s Q X,Sat K N au ρ B ak os H s->tG af w K T n m ρ H Q X->bO (model af w) A t (PG K N au ρ B ak os (QB Q)) (PE K N au ρ B ak os l X) s
theorem Ad.nil:Ad af w K T n N au A l ak os [] (spliced (backTo pos (starEach [] au))):=λρ B H s Q X S h=>yc ⟨H,⟨[],.nil,rfl,h⟩,S⟩
theorem kS(h:∀x p,e≠.Starred x p):starEach (e::rest) au=(false,eval e au)::starEach rest au:=by
 induction e using Expr.casesOn<;>first|rfl|exact absurd rfl (h _ _)
theorem Ad.cons(d:∀x p,e≠.Starred x p)(h1:SE af w K T n N au A l ak os m (eval e au))(h2:Ad af w K T n N au A l ak os ms (spliced (backTo pos (starEach es au)))):
  Ad af w K T n N au A l ak os (m::ms) (spliced (backTo pos (starEach (e::es) au))):=by
 erw[(ρ B H s Q X S h),<-qq (i6 S (λo a=>h1 _ _ _ _ _ _ a h) λv s1 y=>bI λx r q i u=>?_) (kS d),<-i6 i (λo a=>h2 _ _ _ _ _ _ a q) λt s2 j=>(cY · λb k hl c g f=>?_),<-⟨j,⟨x::b,.cons (r.mono f) k,by erw[aj aV,aj aV,aj hl];rfl,c⟩,g⟩]
theorem SE.bin(h1:SE af w K T n N au A l ak os ma (eval a au))(h2:SE af w K T n N au A l ak os mb (eval b au)):
  SE af w K T n N au A l ak os (.bin op ma mb) (eval (.BinOp a op b pos) au):=by
 erw[(ρ B H s Q X S h),<-HX (i6 S (λk c=>h1 _ _ _ _ _ _ c h) λm s1 t=>bI λx d q j o=>?_),<-i6 j (λk c=>h2 _ _ _ _ _ _ c q) λv s2 p=>bI λy r e i f=>?_,<-bc (wpAny_mono (aa8 (d.mono f) r i e) (λ_ _ z=>z.g) λ_ _ z=>z)]
theorem yh(h:HA op=true):AX op e=false:=by
 have a:(op== .In||op== .NotIn)=false:=by induction op using CmpOp.casesOn<;>first|rfl|cases h
 unfold AX
 induction e using Expr.casesOn<;>first|rfl|(refine' aj a ?_;dsimp only;rw[Dp];rfl)
theorem SE.cmp(g:A.units+20<cLine)(i:HA op=true)(h1:SE af w K T n N au A l ak os ma (eval a au))(h2:SE af w K T n N au A l ak os mb (eval b au)):
  SE af w K T n N au A l ak os (.cmp op ma mb) (eval (.Compare a [op] [b] pos) au):=by
 erw[(ρ B H s Q X S h),<-zX (i6 S (λp c=>h1 _ _ _ _ _ _ c h) λu s1 F=>bI λx d q m D=>?_) (yh i),<-i6 m (λp c=>h2 _ _ _ _ _ _ c q) λt s2 E=>bI λy r f k j=>?_,<-p_mono (bc (Vp g (d.mono j) r k f)) (λv C=>bI λb e=>bI λo q c=>?_) λ_ _ z=>z];subst e;exact⟨o,⟨.bool b,.bool b,q⟩,c⟩
theorem ST.cmp(g:A.units+20<cLine)(i:HA op=true)(h1:SE af w K T n N au A l ak os ma (eval a au))(h2:SE af w K T n N au A l ak os mb (eval b au)):
  ST af w K T n N au A l ak os (.cmp op ma mb) (isTrue (.Compare a [op] [b] pos) au whole):=by
 erw[(ρ B H s Q X S h),<-ou (i6 S (λp c=>h1 _ _ _ _ _ _ c h) λu s1 F=>bI λx d q m D=>?_) (yh i),<-i6 m (λp c=>h2 _ _ _ _ _ _ c q) λt s2 E=>bI λy r f k j=>?_,<-p_mono (bc (Vp g (d.mono j) r k f)) (λv C=>bI λb e=>bI λo q c=>?_) λ_ _ z=>z];subst e;exact bc (wpAny_truthy_bool ⟨o,q,c⟩)
theorem zL(r:cZ h v x)(e:isNone x=some t):isSame v .none=pure t:=by
 cases r<;>cases e<;>rfl
theorem is_none(neg:Bool)(r:cZ h v x)(e:isNone x=some t)(q:Q (.bool (t !=neg)) s):bP M A (compareOp (if neg then .IsNot else .Is) v .none) Q Ex s:=by
 unfold compareOp
 induction neg using tW
 ·simp only[jV,if_false];erw[aj (zL r e),<-wpAny_bind (wpAny_pure (wpAny_pure ?_))]
  simpa using q
 ·simp only[if_true];erw[aj (zL r e),<-wpAny_bind (wpAny_pure (wpAny_pure ?_))]
  simpa using q
theorem SE.qL(h1:SE af w K T n N au A l ak os ma (eval a au)):
  SE af w K T n N au A l ak os (.qL ma neg) (eval (.Compare a [if neg then .IsNot else .Is] [.Constant .none k p2] pos) au):=by
 erw[(ρ B H s Q X S h),<-zX (i6 S (λg c=>h1 _ _ _ _ _ _ c h) λv s1 d=>bI λx r=>bI λt e q b f=>?_) (by induction neg using tW<;>rfl),<-bc (wpAny_Constant_none (bc (is_none neg r e ⟨d,⟨_,.bool _,q⟩,b⟩)))]
theorem ST.qL(h1:SE af w K T n N au A l ak os ma (eval a au)):
  ST af w K T n N au A l ak os (.qL ma neg) (isTrue (.Compare a [if neg then .IsNot else .Is] [.Constant .none k p2] pos) au whole):=by
 erw[(ρ B H s Q X S h),<-ou (i6 S (λg c=>h1 _ _ _ _ _ _ c h) λv s1 d=>bI λx r=>bI λt e q b f=>?_) (by induction neg using tW<;>rfl),<-bc (wpAny_Constant_none (bc (is_none neg r e (bc (wpAny_truthy_bool ⟨d,q,b⟩)))))]
theorem SE.cst(h:isC v=true):SE af w K T n N au A l ak os (.cst v) (eval (.Constant (Es v) k pos) au):=by
 intro ρ B H s Q X S q
 induction v using V.casesOn with
 |none=>exact bc (wpAny_Constant_none ⟨H,⟨_,.none,q⟩,S⟩)
 |bool b=>exact bc (wpAny_Constant_bool ⟨H,⟨_,.bool b,q⟩,S⟩)
 |int i=>exact bc (wpAny_Constant_int ⟨H,⟨_,.int i _,q⟩,S.tok _⟩)
 |bytes b=>exact bc (Constant_bytes ⟨H,⟨_,by simpa using cZ.bytes b.toArray _,q⟩,S.tok _⟩)
 |_=>injection h
theorem SE.neg:SE af w K T n N au A l ak os (.cst (.int (-c))) (eval (.UnaryOp .USub (.Constant (.int c) k pos) p2) au):=by
 erw[(ρ B H s Q X S q),<-BZ (bc (wpAny_Constant_int (bc (neg_int ⟨H,⟨_,.int _ _,q⟩,(S.tok _).tok _⟩))))]
theorem SE.name(O:cU sc N au A l ak n)(b:(x !=("__debug__":Str))=true)(h:N.lookup x=some (k,i)):SE af w K T n N au A l ak os (.loc i) (eval (.Name x pos) au):=by
 erw[(ρ B H s Q X S q),ay (zi q),(v a q),<-bc (wpAny_Name (Hq O S h a λc r=>⟨H,⟨v,r,q⟩,S⟩) (by simpa[bne] using b))]
theorem SE.abZ(O:cU sc N au A l ak n)(b:(x !=("__debug__":Str))=true)(a:(sc.lookup x==some .globalImplicit)=true)(h:xP K x (.int i t)):SE af w K T n N au A l ak os (.cst (.int i)) (eval (.Name x pos) au):=by
 erw[(ρ B H s Q X S q),<-bc (yK O S b a h ⟨H,⟨_,.int i t,q⟩,S⟩)]
theorem CH(r:cZ s.heap va x)(S:Sat K N au ρ B ak os H s)(h:fN x H λb=>Q b H):bP (model af w) A (truthy va) (PG K N au ρ B ak os (QB Q)) Ex s:=RF r S h
theorem SE.not(h1:SE af w K T n N au A l ak os m (eval e au)):SE af w K T n N au A l ak os (.not m) (eval (.UnaryOp .Not e pos) au):=by
 erw[(ρ B H s Q X S h),<-BZ (i6 S (λk f=>h1 _ _ _ _ _ _ f h) λv s1 j=>bI λx r q d i=>?_),<-bc (not_of (wpAny_mono (CH r d q) (λb s2=>bI λg a c=>⟨g,⟨_,.bool _,a⟩,c⟩) λ_ _ z=>z))]
theorem ST.not(h1:ST af w K T n N au A l ak os m (isTrue e au (eval e au))):ST af w K T n N au A l ak os (.not m) (isTrue (.UnaryOp .Not e pos) au whole):=by
 erw[(ρ B H s Q X S h),<-Cf (p_mono (h1 _ _ _ _ _ _ S h) (λb s1=>bI λc q a=>⟨c,q,a⟩) λ_ _ z=>z)]
theorem SE.ite(h1:ST af w K T n N au A l ak os mc (isTrue c au (eval c au)))(h2:SE af w K T n N au A l ak os ma (eval a au))(h3:SE af w K T n N au A l ak os mb (eval b au)):
  SE af w K T n N au A l ak os (.ite mc ma mb) (eval (.IfExp c a b pos) au):=by
 erw[(ρ B H s Q X S h),<-Pn (p_mono (h1 _ _ _ _ _ _ S h) (λt s1=>bI λe q d=>?_) λ_ _ z=>z)];unfold QB at q
 induction t using tW
 ·exact h3 _ _ _ _ _ _ d (by simpa using q)
 ·exact h2 _ _ _ _ _ _ d (by simpa using q)
theorem ST.ite(h1:ST af w K T n N au A l ak os mc (isTrue c au (eval c au)))(h2:ST af w K T n N au A l ak os ma (isTrue a au (eval a au)))(h3:ST af w K T n N au A l ak os mb (isTrue b au (eval b au))):
  ST af w K T n N au A l ak os (.ite mc ma mb) (isTrue (.IfExp c a b pos) au whole):=by
 erw[(ρ B H s Q X S h),<-zA (p_mono (h1 _ _ _ _ _ _ S h) (λt s1=>bI λe q d=>?_) λ_ _ z=>z)];unfold QB at q
 induction t using tW
 ·exact h3 _ _ _ _ _ _ d (by simpa using q)
 ·exact h2 _ _ _ _ _ _ d (by simpa using q)
theorem ST.leaf(h1:SE af w K T n N au A l ak os m (eval e au))(d:isTrue e au (eval e au)=(do let v<-eval e au;standAt e.pos;holding [v] (truthy v)))(c:∀ρ H Q X,tG af w K T n m ρ H Q X->dm af w K T n m ρ H (λv a=>fN v a λb=>Q b a) X):ST af w K T n N au A l ak os m (isTrue e au (eval e au)):=by
 erw[(ρ B H s Q X S h),<-sZ (i6 S (λo g=>h1 _ _ _ _ _ _ g (c _ _ _ _ h)) λi s1 k=>bI λx r q f j=>?_) d,<-bc (CH r f q)]
theorem QE(h:wN e=true):tN e a au t=t:=by
 induction e using Expr.casesOn with
 |Call f b ks p=>
  induction f using Expr.casesOn with
  |Name x q=>
   induction b using lcs with
   |nil=>
    induction ks using lcs with
    |nil=>exact Bool.noConfusion h
    |cons=>rfl
   |cons=>rfl
  |_=>rfl
 |_=>rfl
theorem SE.attr(a:wN e=true)(h1:SE af w K T n N au A l ak os m (eval e au)):SE af w K T n N au A l ak os (.attr m k) (eval (.Attribute e (atName k) pos) au):=by
 erw[(ρ B H s Q X S h),Ej (i6 S (λi c=>h1 _ _ _ _ _ _ c h) λv s1 f=>bI λx r q b d=>?_)]
 ·exact bc (wpAny_mono (attrS r b q) (λ_ _ z=>z.g) λ_ _ z=>z)
 ·exact QE a
theorem SE.sub(d:rV i=true)(h1:SE af w K T n N au A l ak os m (eval e au))(h2:SE af w K T n N au A l ak os mi (eval i au)):SE af w K T n N au A l ak os (.sub m mi) (eval (.Subscript e i pos) au):=by
 erw[(ρ B H s Q X S h),<-s7 (i6 S (λo a=>h1 _ _ _ _ _ _ a h) λp s1 C=>bI λx b q k t=>?_),<-i6 k (λo a=>h2 _ _ _ _ _ _ a q) λv s2 u=>bI λy r c j f=>?_,<-bc (wpAny_mono (abN d (b.mono f) r j c) (λ_ _ z=>z.g) λ_ _ z=>z)]
def QO(Q:Option Int->Hp->Prop)(v:Value)(_:Heap)(H:Hp):Prop:=∃k,IsPart v k/\Q k H
def SO(af:eE)(w:bY)(K:fq)(T:lu)(n:Nat)(N:dJ)(au:mA)(A:Around)(l:List mA)(ak:List (Addr×Obj))(os:bL)(m:Option E)(t:Sem Value):Prop:=
 ∀ρ B H s Q X,Sat K N au ρ B ak os H s->QY af w K T n m ρ H Q X->bO (model af w) A t (PG K N au ρ B ak os (QO Q)) (PE K N au ρ B ak os l X) s
theorem SO.none:SO af w K T n N au A l ak os none (evalPart none au):=λρ B H s Q X S h=>bj ⟨H,⟨_,.none,h⟩,S⟩
theorem SO.some{e:di}{m:E}(h1:SE af w K T n N au A l ak os m (eval e au)):SO af w K T n N au A l ak os (some m) (evalPart (some e) au):=λρ B H s Q X S h=>by
 refine p_mono (h1 _ _ _ _ _ _ S h) (λv s1=>bI λb=>bI λx r=>bI λk e q a=>?_) λ_ _ z=>z;subst e;cases r;exact⟨b,⟨_,.int _ _,q⟩,a⟩
theorem SE.A4{lo b:Option di}(h1:SE af w K T n N au A l ak os m (eval e au))(h2:SO af w K T n N au A l ak os mlo (evalPart lo au))(h3:SO af w K T n N au A l ak os PY (evalPart b au)):
  SE af w K T n N au A l ak os (.A4 m mlo PY) (eval (.Subscript e (.Slice lo b none p) pos) au):=by
 erw[(ρ B H s Q X S h),<-s7 (i6 S (λc a=>h1 _ _ _ _ _ _ a h) λD s1 L=>bI λx r q v G=>?_),<-Iu (i6 v (λc a=>h2 _ _ _ _ _ _ a q) λC s2 J=>bI λF j f u o=>?_),<-i6 u (λc a=>h3 _ _ _ _ _ _ a f) λy s3 I=>bI λE i d t k=>?_,<-bc (wpAny_mono (aaD ((r.mono o).mono k) j i t d) (λ_ _ z=>z.g) λ_ _ z=>z)]
theorem bU.ints:∀{a:List Value},(∀v∈a,∃i t,v=.int i t)->bU h a ((a.map Pu).map V.int)
 |[],_=>.nil
 |v::a,q=>by
  erw[gR (q v kf),(i t e),aj e,<-.cons (.int i t) (bU.ints λv m=>q v (fV m))]
theorem SE.JT(j:TabsOk T K)(O:cU sc N au A l ak n)(f:(x !=("__debug__":Str))=true)(h:N.lookup x=some (k,0)):
  SE af w K T n N au A l ak os .JT (eval (.Subscript (.Name x np) (.Slice none (some (.Constant (.int 24) ck kp)) none sp) pos) au):=by
 erw[(ρ B H s Q X S q),cY (zi q),(v c e1 q)];subst e1;erw[fh j.JT,(i hl d e2 b),<-s7 (bc (wpAny_Name (Hq O S h c λo r=>?_) (by simpa[bne] using f)))];have e:=r.inv;subst e;refine Iu (bj (bc (wpAny_Constant_int (k:=ck) (pos:=kp) ?_)));have a:=(S.tok (s.toks+1)).push {cls:=.type "slice",data:=.fields #[.none,.int 24 s.toks,.none]};have hl:=hl _ (a.h.st.Be.keeps a.h.stays);refine bc (tail_any hl.typeIs Ca.lookup (wpAny_getItem_list_slice hl (rq _ _ _ _) .none (.int _ _) .none (by simp) ?_ (aj sizeLine_eq (dM b rfl))) rfl);rw[slicePick_plain];have:=xC i.toList none (some 24) trivial ⟨by decide,by decide⟩;erw[aj this,<-(PV.list a ?_ q).g,aj e2,<-bU.ints λv m=>d v (mB m)]
theorem Sat.Mc(S:Sat K N au ρ B ak os H s)(r:bU s.heap aQ vs):Sat K N au ρ B ak os H {s with heap:=s.heap.push {cls:=.type "tuple",data:=.seq aQ.toArray}}/\
  cZ (s.heap.push {cls:=.type "tuple",data:=.seq aQ.toArray}) (.ref s.heap.objs.size) (.tup vs):=
 ⟨S.push _,.tup ⟨_,dw _ rfl,rfl,0,rfl⟩ (r.mono λ_ _ t=>t.push _)⟩
theorem SE.lst(h1:Ad af w K T n N au A l ak os ms (spliced (backTo pos (starEach es au)))):SE af w K T n N au A l ak os (.lst ms) (eval (.List es pos) au):=by
 erw[(ρ B H s Q X S h),<-SM (i6 S (λf c=>h1 _ _ _ _ _ _ c h.2) λv s1 e=>(cY · λx a hl q b d=>⟨?_,?_⟩))]
 ·erw[aj a.length,aj hl];have:=h.1;exact dM this rfl
 ·exact(PV.list b a q).g
theorem SE.tup(h1:Ad af w K T n N au A l ak os ms (spliced (backTo pos (starEach es au)))):SE af w K T n N au A l ak os (.tup ms) (eval (.Tuple es k pos) au):=by
 erw[(ρ B H s Q X S h),<-O3 (i6 S (λg d=>h1 _ _ _ _ _ _ d h.2) λv s1 e=>(cY · λx a hl q c f=>⟨?_,?_⟩))]
 ·erw[aj a.length,aj hl];have:=h.1;exact dM this rfl
 ·erw[aD (c.Mc a),(b r),<-⟨e,⟨_,r,q⟩,b⟩]
def Bp(af:eE)(w:bY)(K:fq)(T:lu)(n:Nat)(N:dJ)(au:mA)(A:Around)(l:List mA)(ak:List (Addr×Obj))(os:bL)(op:BoolOp)(ms:List E)(t:Sem Value):Prop:=
 ∀ρ B H s Q X,Sat K N au ρ B ak os H s->(match op with| .And=>Hi af w K T n ms ρ H Q X| .Or=>Ot af w K T n ms ρ H Q X)->bO (model af w) A t (PG K N au ρ B ak os (QV Q)) (PE K N au ρ B ak os l X) s
theorem Bp.one(h1:SE af w K T n N au A l ak os m (eval e au)):Bp af w K T n N au A l ak os op [m] (eval (.BoolOp op [e] pos) au):=by
 intro ρ B H s Q X S h
 induction op using BoolOp.casesOn
 ·exact h1 ρ B H s Q X S h
 ·exact h1 ρ B H s Q X S h
theorem Bp.more(h1:SE af w K T n N au A l ak os m (eval e au))(h2:Bp af w K T n N au A l ak os op (m2::ms) (eval (.BoolOp op (e2::es) pos) au)):
  Bp af w K T n N au A l ak os op (m::m2::ms) (eval (.BoolOp op (e::e2::es) pos) au):=by
 intro ρ B H s Q X S h
 induction op using BoolOp.casesOn
 ·erw[<-Ck (i6 S (λk c=>h1 _ _ _ _ _ _ c h) λv s1 p=>bI λx r q i o=>?_),i6 i (λk c=>bc (CH (Q:=λb f=>if b=true then Hi af w K T n (m2::ms) ρ f Q X else Q x f) r c q)),(b s2 j a d g)];unfold QB at a
  induction b using tW
  ·exact⟨j,⟨x,r.mono g,by simpa using a⟩,d⟩
  ·exact h2 _ _ _ _ _ _ d (by simpa using a)
 ·erw[<-EJ (i6 S (λk c=>h1 _ _ _ _ _ _ c h) λv s1 p=>bI λx r q i o=>?_),i6 i (λk c=>bc (CH (Q:=λb f=>if b=true then Q x f else Ot af w K T n (m2::ms) ρ f Q X) r c q)),(b s2 j a d g)];unfold QB at a
  induction b using tW
  ·exact h2 _ _ _ _ _ _ d (by simpa using a)
  ·exact⟨j,⟨x,r.mono g,by simpa using a⟩,d⟩
theorem SE.and(h:Bp af w K T n N au A l ak os .And ms (eval (.BoolOp .And es pos) au)):SE af w K T n N au A l ak os (.and ms) (eval (.BoolOp .And es pos) au):=
 λρ B H s Q X S q=>h ρ B H s Q X S (q)
theorem SE.or(h:Bp af w K T n N au A l ak os .Or ms (eval (.BoolOp .Or es pos) au)):SE af w K T n N au A l ak os (.or ms) (eval (.BoolOp .Or es pos) au):=
 λρ B H s Q X S q=>h ρ B H s Q X S (q)
noncomputable def H_:Bool->BoolOp
 |true=>.And
 |false=>.Or
def Oe(af:eE)(w:bY)(K:fq)(T:lu)(n:Nat)(N:dJ)(au:mA)(A:Around)(l:List mA)(ak:List (Addr×Obj))(os:bL)(all:Bool)(ms:List E)(t:Sem Bool):Prop:=
 ∀ρ B H s Q X,Sat K N au ρ B ak os H s->Dm af w K T n all ms ρ H Q X->bO (model af w) A t (PG K N au ρ B ak os (QB Q)) (PE K N au ρ B ak os l X) s
theorem Oe.nil:Oe af w K T n N au A l ak os all [] (isTrue (.BoolOp (H_ all) [] pos) au whole):=by
 intro ρ B H s Q X S h
 induction all using tW
 ·exact bc (isTrue_or_nil ⟨H,h,S⟩)
 ·exact bc (isTrue_and_nil ⟨H,h,S⟩)
theorem Oe.cons(h1:ST af w K T n N au A l ak os m (isTrue e au (eval e au)))(h2:Oe af w K T n N au A l ak os all ms (isTrue (.BoolOp (H_ all) es pos) au whole)):Oe af w K T n N au A l ak os all (m::ms) (isTrue (.BoolOp (H_ all) (e::es) pos) au whole):=by
 intro ρ B H s Q X S h
 induction all using tW
 ·refine DU (p_mono (h1 _ _ _ _ _ _ S h) (λb s1=>bI λc q a=>?_) λ_ _ z=>z);unfold QB at q
  induction b using tW
  ·exact h2 _ _ _ _ _ _ a (by simpa using q)
  ·exact⟨c,show Q true c by simpa using q,a⟩
 ·refine Cr (p_mono (h1 _ _ _ _ _ _ S h) (λb s1=>bI λc q a=>?_) λ_ _ z=>z);unfold QB at q
  induction b using tW
  ·exact⟨c,show Q false c by simpa using q,a⟩
  ·exact h2 _ _ _ _ _ _ a (by simpa using q)
theorem ST.and(h:Oe af w K T n N au A l ak os true ms (isTrue (.BoolOp .And es pos) au whole)):ST af w K T n N au A l ak os (.and ms) (isTrue (.BoolOp .And es pos) au whole):=
 λρ B H s Q X S q=>h ρ B H s Q X S (q)
theorem ST.or(h:Oe af w K T n N au A l ak os false ms (isTrue (.BoolOp .Or es pos) au whole)):ST af w K T n N au A l ak os (.or ms) (isTrue (.BoolOp .Or es pos) au whole):=
 λρ B H s Q X S q=>h ρ B H s Q X S (q)
theorem wu:∀{vs:List V} {l:List Int},lh vs=some l->vs=l.map V.int
 |[],_,h=>by injection h with h;subst h;rfl
 | .int i::r,l,h=>by
  replace h:(lh r).map (i:: ·)=some l:=h;erw[ay (rn.mp h),(a h1 h2)];subst h2;erw[aj du,c_ (wu h1)];rfl
 | .none::_,_,h| .bool _::_,_,h| .bytes _::_,_,h| .text::_,_,h| .tup _::_,_,h| .ref _::_,_,h=>by injection h
theorem intsAre_of{l:List Int}:∀{c:List Value},bU h c (l.map V.int)->IntsAre c l:=by
 induction l with
 |nil=>intro c r;refine' aj r.Pa ?_;exact .nil
 |cons i l d=>
  erw[(c r),dg (bU.inv r),(v f e a b),bf a.inv,(t e2),aj e,aj e2,<-.cons i t (d b)]
theorem N3{l:List Int}(q:IntsAre aQ l):bU h aQ (l.map V.int):=by
 induction q with
 |nil=>exact .nil
 |cons i t _ a=>exact .cons (.int i t) a
theorem Jm{a b:List Int}(p:a.Perm b)(c:a.Pairwise (· <=·))(h:b.Pairwise (· <=·)):a=b:=
 p.eq_of_pairwise (λx y _ _ h1 h2=>da h1 h2) c h
theorem Ed(S:Sat K N au ρ B ak os H s)(e:H a=some (.list vs))(h:vs.length<=100000)(q:Q (.int vs.length) H):bP (model af w) A (call (.builtin "len") [.ref a]) (PV K N au ρ B ak os Q) Ex s:=by
 erw[ay (eV S e),(b hl r)];have d:=r.length;erw[Calls.call_len_list hl (by simp;exact aU.mpr (fp [(av,aX),(aX,zn 100000)] (zs av,zn 9223372036854775808) rt (aa d) h)),aj (show b.toArray.size=(vs.length:Int) by simp;exact congrArg gX (aS (fp [(av,aX)] (av,aX) rt (aa d)) (fp [(av,aX)] (av,aX) rt (aa (ao d))))),<-PV.int S q]
theorem Pp(r:cZ s.heap a x)(S:Sat K N au ρ B ak os H s)(h:jR .len [x] H Q):bP (model af w) A (call (.builtin "len") [a]) (PV K N au ρ B ak os Q) Ex s:=by
 induction x using V.casesOn with
 |ref b=>
  have e:=r.inv;subst e;erw[ay (gh h),(v e h),<-Ed S e h.1 h.2]
 |bytes b=>
  erw[df r.inv,(c t d i)];subst d;subst i;have h:=h;erw[len_bytes (by have:=h.1;simp at this;exact dM this rfl),aj (show c.size=c.toList.length by simp),<-PV.int S h.2]
 |_=>exact h.elim
theorem GI(r:cZ s.heap a x)(S:Sat K N au ρ B ak os H s)(h:jR .sorted [x] H Q):bP (model af w) A (call (.builtin "sorted") [a]) (PV K N au ρ B ak os Q) Ex s:=by
 induction x using V.casesOn with
 |ref b=>
  have e:=r.inv;subst e;erw[ay (gh h),(z e h),fh h,(C h1 h2 h3 q)]
  obtain rfl:=wu h1
  erw[ay (eV S e),(f hl r)];have p:=r.length;have d:f.length<64:=by refine' aj p ?_;rewrite[aq];exact h3
  erw[sorted_ints hl (intsAre_of r) d,(c n v u t)]
  obtain rfl:=Jm u t h2
  erw[bf (sortedAll_at s.heap f c),(l g)];have j:s.heap.get? (s.heap.objs.size+1)=none:=by
   cases q:s.heap.get? (s.heap.objs.size+1) with
   |none=>rfl
   |some o=>exact absurd (eQ q) (tP.mpr (mJ _))
  have y:=S.new (s':={s with heap:=sortedAll s.heap f c}) (mo:=.list (n.map V.int)) (λ_ _=>sortedAll_old) j rfl ⟨c.toList,⟨⟨_,g,rfl,l,by simp[seqObj]⟩,by unfold sD;erw[aj g];rfl⟩,N3 v⟩ S.h.gens S.h.os;have k:H (s.heap.objs.size+1)=none:=by
   cases q:H (s.heap.objs.size+1) with
   |none=>rfl
   |some m=>refine ay ((S.h.rel.obj _ _ q).pC) ?_;intro o i _;rw[j] at i;injection i
  exact⟨_,_,.ref _,q _ k,y⟩
 |_=>exact h.elim
theorem IL(r:cZ s.heap a x)(S:Sat K N au ρ B ak os H s)(h:jR .tuple [x] H Q):bP (model af w) A (call (.type "tuple") [a]) (PV K N au ρ B ak os Q) Ex s:=by
 induction x using V.casesOn with
 |ref b=>
  have e:=r.inv;subst e;erw[ay (gh h),(v e h),ay (eV S e),(k hl r)];have g:=r.length;refine call_tuple_list hl (λf c=>?_) (by erw[aj sizeLine_eq];simp;have:=h.1;exact XZ h g);have j:=S.grow (s':={s with heap:=f}) c S.h.gens S.h.os;erw[aD (j.Mc (r.mono (ju.tup (ju.of_keeps c) λ_ _ _=>id))),(i d),<-⟨_,H,d,h.2,i⟩]
 |_=>exact h.elim
theorem LP(r:cZ s.heap a x)(S:Sat K N au ρ B ak os H s)(h:jR .list [x] H Q):bP (model af w) A (call (.type "list") [a]) (PV K N au ρ B ak os Q) Ex s:=by
 induction x using V.casesOn with
 |ref b=>
  have e:=r.inv;subst e;erw[ay (gh h),(v e h),ay (wY (S.h.rel.obj b _ e)),(j hl r)];have g:=r.length;erw[gR hl,(n sl f),<-call_list_seq b (.inl rfl) f rfl rfl (λk i c d=>?_) (by erw[aj sizeLine_eq];simp;have:=h.1;exact XZ h g),<-⟨_,_,.ref _,h.2 _ S.fresh,S.new c (none_at_size _) rfl ?_ S.h.gens S.h.os⟩,<-⟨j,⟨⟨_,d,rfl,i,rfl⟩,by unfold sD;erw[aj d];rfl⟩,r.mono (ju.tup (ju.of_keeps c) λ_ _ _=>id)⟩]
 |_=>exact h.elim
theorem EM(a:IntsAre aQ ns):∃xs,aQ.toArray=intItems xs/\preSum (numAt xs) xs.size=ns.sum:=by
 erw[bf a.allInts.items,(xs h),<-⟨xs,h,?_⟩];have e1:ns=xs.toList.map (·.1):=by
  rewrite[<-nums_intItems];erw[c_ h,<-(show numsOf aQ.toArray.toList=ns from a.numsOf).symm]
 rewrite[preSum_eq];erw[aj (d6 (by simp)),aj e1];rfl
theorem OQ(d:A.handled=none)(r:cZ s.heap a x)(S:Sat K N au ρ B ak os H s)(h:jR .sum [x] H Q):bP (model af w) A (call (.builtin "sum") [a]) (PV K N au ρ B ak os Q) Ex s:=by
 induction x using V.casesOn with
 |ref b=>
  have e:=r.inv;subst e;erw[ay (gh h),(v e h),cY h,(l h1 h2 q)]
  obtain rfl:=wu h1
  erw[ay (eV S e),(j hl r),ay (EM (intsAre_of r)),(f e1 e2),sum_intListG d (e1▸hl),(i t g c),aj e2,<-⟨_,H,.int _ _,q,S.grow c S.h.gens S.h.os⟩]
 |_=>exact h.elim
theorem OY(k:A.handled=none)(f:cZ s.heap a x)(r:cZ s.heap b y)(S:Sat K N au ρ B ak os H s)(h:jR .min [x,y] H Q):bP (model af w) A (call (.builtin "min") [a,b]) (PV K N au ρ B ak os Q) Ex s:=by
 induction x using V.casesOn with
 |int i=>
  induction y using V.casesOn with
  |int j=>
   erw[bf f.inv,(t l)];subst l;erw[bf r.inv,(u p)];subst p;have h:Q (.int (min i j)) H:=h;erw[PySem.min_two_ints k,(m e g)];have d:=S.grow (s':={s with heap:=m,toks:=e}) g S.h.gens S.h.os
   by_cases c:j<i
   ·erw[aj (if_pos c)];rw[Int.min_eq_right (II c)] at h;exact⟨_,H,.int _ _,h,d⟩
   ·erw[aj (if_neg c)];rw[Int.min_eq_left (fj.mp c)] at h;exact⟨_,H,.int _ _,h,d⟩
  |_=>exact h.elim
 |_=>exact h.elim
namespace BA
theorem mro:mroOf (.type "bytearray")=pure [.type "bytearray",.type "object"]:=by rw[mroOf_type];kernel_rfl
theorem F8:nH (.type "bytearray") "__new__"=pure (some (.builtin "bytearray.__new__")):=by rewrite[dD];refine' aj bZ ?_;kernel_rfl
theorem xE:Slot "bytearray" "__init__" "bytearray.__init__":=
 .of (owner:= "bytearray") (n:= "__init__") (by rewrite[dD];erw[aj bZ];kernel_rfl) (by decide+kernel) (by decide+kernel) (by decide+kernel)
  (by first|exact .inl (by decide+kernel)|exact .inr (by decide+kernel)) (by rw[q5];kernel_rfl)
theorem made:Bind.madeBy (.type "bytearray")=pure (some "bytearray.__new__"):=madeBy_type mro F8 (by decide+kernel)
theorem sub:isSubtype (.type "bytearray") (.type "bytearray")=pure true:=by rw[q5];kernel_rfl
theorem typeCall:checkTypeCall "bytearray" ⟨[],[]⟩=pure ():=by kernel_rfl
theorem Oy:checkBuiltinCall "bytearray.__new__" ⟨[.type "bytearray"],[]⟩=pure ():=by kernel_rfl
theorem Jf:entryFor table "bytearray.__new__"=some Builtin.«list.__new__»:=
 entryFor_alias (id':= "list.__new__") (by kernel_rfl) (by first|rfl|decide+kernel) (by decide+kernel) (by kernel_rfl)
theorem JC:plainId "bytearray.__new__"=true:=by decide+kernel
theorem GL:entryFor table "bytearray.__init__"=some Builtin.«bytearray.__init__»:=by first|exact nJ (by kernel_rfl)|exact nK (by kernel_rfl)
theorem Jy(a:Value):argsOk "bytearray.__init__" ⟨[a],[]⟩:=by unfold argsOk;kernel_rfl
theorem Ja:("bytearray.__new__".splitOn ".__new__").headD ""= "bytearray":=by simp+decide [String.splitOn,String.splitOnAux]
theorem Mu(h:Q₁ (.ref s.heap.objs.size) {s with heap:=s.heap.push {cls:=.type "bytearray",data:=.bytearray #[]}}):
  codeAny (model af w) A (.call (.builtin "bytearray.__new__") ⟨[.type "bytearray"],[]⟩) (wants Q₁ Ex) s:=by
 erw[Fh,<-wpAny_bind (wpAny_of_eq Oy (wpAny_pure ⟨plainId_quiet JC _,codeAny_builtin_stack Jf rfl λp st=>?_⟩))];have P:=sub;rcases s with⟨hp,g,d,tk,os⟩
 simp only[Ja]
 wp_walk
 exact h
noncomputable def lend(self:Value):Code×Pos->Bool
  |(.builtin "bytearray.__contains__" ⟨v::_,_⟩,_)|(.builtin "bytearray.__mod__" ⟨v::_,_⟩,_)
  |(.builtin "bytearray.__rmod__" ⟨_::v::_,_⟩,_)|(.builtin "_struct.pack_into.held" ⟨v::_,_⟩,_)=>jA v self
  |(.builtin "bytearray.find.held" ⟨_::_::held,_⟩,_)=>held.any (jA self)
  |(.builtin id ⟨v::_,_⟩,_)=>jA v self&&fZ.contains id
  |_=>false
theorem Kp{id:String}(h:oY (.builtin id args)=true)(m:id∈sr):False:=by
 unfold oY at h;simp only[Bool.not_eq_true',List.contains_eq_mem,decide_eq_false_iff_not] at h;exact h m
theorem OK{id:String}(h:oY (.builtin id args)=true):lend self (.builtin id args,p)=false:=by
 rcases args with⟨pos,kw⟩
 have n:∀x,x∈sr->id≠x:=λx a e=>Kp h (e▸a);have e:lend self (.builtin id ⟨pos,kw⟩,p)=(match pos with|v::_=>jA v self&&fZ.contains id|_=>false):=by
  delta lend lend.match_1
  erw[<-(dif_neg (n "bytearray.__contains__" (by decide+kernel))).trans ?_,<-(dif_neg (n "bytearray.__mod__" (by decide+kernel))).trans ?_,<-(dif_neg (n "bytearray.__rmod__" (by decide+kernel))).trans ?_,<-(dif_neg (n "_struct.pack_into.held" (by decide+kernel))).trans ?_,<-(dif_neg (n "bytearray.find.held" (by decide+kernel))).trans ?_]
  induction pos using lcs<;>rfl
 erw[aj e]
 induction pos using lcs with
 |nil=>rfl
 |cons v l=>
  cases q:fZ.contains id with
  |false=>exact Dp _
  |true=>exact(Kp h (JN _ (by simpa using q))).elim
theorem UU(s:Value)(l:List (Code×Pos))(h:∀x∈l,oY x.1=true):l.any (lend s)=false:=by
 rw[y9];intro x b;have d:=h x b;rcases x with⟨c,p⟩
 induction c using Code.casesOn with
 |builtin id a=>refine' aj (OK d) ?_;exact h_
 |_=>exact h_
theorem zQ(h:Q false s):bO M A (Builtin.Bytes.exported self) Q Ex s:=λa p b h1 h2=>by
 show Q (((a.code,p)::a.below).any _) s;refine' aj (UU self ((a.code,p)::a.below) λx hx=>by
  rcases bE.mp hx with rfl|hx
  ·exact h1
  ·exact h2 x hx) ?_
 exact h
noncomputable def kD(h:Heap)(a:Addr)(b:Array UInt8):Prop:=∃sl,h.get? a=some {cls:=.type "bytearray",dict:=none,data:=.bytearray b 0,slots:=sl}
theorem uV(d:kD s.heap a b)(h:Q () s):bO M A (ya (.ref a)) Q Ex s:=by
 erw[bf d,(sl c),<-az (az (zQ ?_)),<-az (bc ?_),<-wpAny_bind (wpAny_load c (wpAny_pure (bj (bj h))))]
theorem xr(e:kD s.heap a b)(d:(f b).size<=iq)(h:kD (s.heap.update a (gY f)) a (f b)->eo a s.heap (s.heap.update a (gY f))->Q () {s with heap:=s.heap.update a (gY f)}):bP M A (updateBytearray a f) Q Ex s:=by
 erw[bf e,(sl c),<-wpAny_bind (wpAny_load c ?_),<-wpAny_bind (wpAny_update c ?_)];have h2:=fg (gY f) c rfl;refine wpAny_lookBehind h2 ?_ (h ⟨sl,h2⟩ (iI ..));show(if(f b).size>iq then some "bytearray:memory" else none)=none;erw[aj (if_neg (FQ [(av,aX),(zs aX,av)] rt d))];rfl
theorem FW:nH (.type "bytearray") "__release_buffer__"=pure (some (.builtin "bytearray.__release_buffer__")):=by rewrite[dD];refine' aj bZ ?_;kernel_rfl
theorem vt:nH (.type "bytearray") "__buffer__"=pure (some (.builtin "bytearray.__buffer__")):=by rewrite[dD];refine' aj bZ ?_;kernel_rfl
theorem WZ:Builtin.Bytes.bindOptional "bytearray.__init__" "bytearray" ["source","encoding","errors"] [] []=pure [none,none,none]:=by kernel_rfl
theorem Kv:("bytearray.__release_buffer__".endsWith ("." ++ "__release_buffer__"))=true:=by decide+kernel
theorem NH:("bytearray.__buffer__".endsWith ("." ++ "__buffer__"))=true:=by decide+kernel
theorem L5: "bytearray.__release_buffer__".dropRight ("__release_buffer__".length+1)= "bytearray":=by decide+kernel
theorem Nc: "bytearray.__buffer__".dropRight ("__buffer__".length+1)= "bytearray":=by decide+kernel
theorem kD.typ(h:kD s.heap a b):s.TypeIs (.ref a) "bytearray":=let⟨_,ho⟩:=h;⟨_,ho,rfl⟩
theorem IM(c:kD s.heap a b)(h:Q true s):bP M A (nL (.ref a) "__release_buffer__") Q Ex s:=by
 refine wpAny_bind (wpAny_specialOf c.typ FW ?_);show bP M A (if(!"bytearray.__release_buffer__".endsWith ("." ++ "__release_buffer__"))=true then _ else _) _ _ _;erw[aj Kv,nM,aj L5,<-wpAny_isInstance c.typ sub h]
theorem LO(c:kD s.heap a b)(h:Q true s):bP M A (nL (.ref a) "__buffer__") Q Ex s:=by
 refine wpAny_bind (wpAny_specialOf c.typ vt ?_);show bP M A (if(!"bytearray.__buffer__".endsWith ("." ++ "__buffer__"))=true then _ else _) _ _ _;erw[aj NH,nM,aj Nc,<-wpAny_isInstance c.typ sub h]
theorem vN(c:kD s.heap a b)(h:Q false s):bP M A (Builtin.Bytes.ownRelease (.ref a)) Q Ex s:=by
 exact wpAny_bind (IM c (wpAny_pure h))
theorem B5(d:kD s.heap a b)(h:Q b s):bP M A (Builtin.Bytes.payload (.ref a)) Q Ex s:=by
 erw[bf d,(sl c),<-wpAny_bind (wpAny_bind (wpAny_load c (wpAny_pure (wpAny_pure h))))]
theorem MP{id:String}(c:kD s.heap a b)(h:Q (some b) s):bP M A (jB id (.ref a) full) Q Ex s:=by
 erw[<-wpAny_bind (wpAny_specialOf c.typ vt ?_),<-wpAny_bind (LO c ?_),nM,<-wpAny_bind (wpAny_specialOf c.typ vt ?_),<-wpAny_bind (vN c ?_),nM,<-wpAny_bind (B5 c (wpAny_pure h))]
theorem Gw{id:String}(n:sr.contains id=false)(c:plainId id=true)(d:entryFor table id=some b)(h:bO (model af w) A.in1 (b args) (λa s'=>match a with| .done f=>R (.ok f) s'| .again c'=>c'.quiet=true/\dV (model af w) A c' R s') (λe s'=>R (.error e) s') s):dV (model af w) A (.builtin id args) R s:=by
 erw[gH (by show(!sr.contains id)=true;erw[aj n];rfl),aj (ug c args)];show bO _ _ (match entryFor table id with|some b=>b args|none=>yV ((withoutEnding? id "#data").getD id)) _ _ s;erw[aj d,<-h]
theorem uQ{id:String}(n:sr.contains id=false)(c:entryFor table id=some b)(h:bO (model af w) (A.under (.builtin id args)) (b args) (λa s'=>match a with| .done f=>R (.ok f) s'| .again c'=>c'.quiet=true/\dV (model af w) A c' R s') (λe s'=>R (.error e) s') s):dV (model af w) A (.builtin id args) R s:=by
 erw[gH (by show(!sr.contains id)=true;erw[aj n];rfl)];show bO _ _ (match entryFor table id with|some b=>b args|none=>yV ((withoutEnding? id "#data").getD id)) _ _ s;erw[aj c,<-h]
theorem lU{id:String}(n:sr.contains id=false)(c:plainId id=true)(g:entryFor table id=some b)(h:bP (model af w) A.in1 (checkBuiltinCall id args) (λ_ d=>bO (model af w) A.in1 (b args) (λa s'=>match a with| .done f=>R (.ok f) s'| .again c'=>c'.quiet=true/\dV (model af w) A c' R s') (λe s'=>R (.error e) s') d) (λe s'=>R (.error e) s') s):
  dV (model af w) A (.call (.builtin id) args) R s:=by
 erw[gH rfl,<-az (p_mono (bc h) (λ_ d j=>bj (Hd (plainId_quiet c args) (Gw n c g j))) λ_ _ i=>i)]
theorem Ta{S:Addr}(a:kD s.heap S b)(h:kD (s.heap.update S (gY λ_=>#[])) S #[]->eo S s.heap (s.heap.update S (gY λ_=>#[]))->R (.ok (.ret .none)) {s with heap:=s.heap.update S (gY λ_=>#[])}):
  dV (model af w) A (.call (.builtin "bytearray.__init__") ⟨[.ref S],[]⟩) R s:=by
 erw[<-lU (by decide+kernel) xE.plain GL (xE.check _ _ _ _ _ _ _ _ a.typ (Jy _) ?_),<-az (bc (vN a ?_)),<-az (t_ WZ (bj ?_)),<-az (t_ rfl (bj ?_)),<-az (t_ rfl (bj ?_)),<-az (az (zQ ?_)),bf (id a),(sl c),<-az (bc ?_),<-wpAny_bind (wpAny_load c (wpAny_pure (bj ?_))),<-az (bc (xr a (ia _) λh1 h2=>bj (h h1 h2)))]
theorem tJ(h:c=false):(if c=true then a else b)=b:=by refine' aj h ?_;rfl
theorem Rq(h:∀a,(∀b o,s.heap.get? b=some o->a.get? b=some o)->kD a s.heap.objs.size #[]->Q (.ref s.heap.objs.size) {s with heap:=a}):bO (model af w) A (call (.type "bytearray") []) Q Ex s:=by
 erw[<-sI (gH rfl ?_),<-bj ⟨Code.quiet_builtin _ (by decide+kernel),uQ (by decide+kernel) F.entry_type_call ?_⟩];unfold Builtin.«type.__call__»;show bO _ _ (if(((Manifest.find? "bytearray").bind (·.mro.findSome? λt=>(Manifest.find? t).bind λb=>if b.noNew then some true else if b.attrs.any (·.1== "__new__") then some false else none)).getD false)=true then _ else _) _ _ _;erw[<-az (t_ typeCall (bj ?_)),<-az (t_ mro (bj ?_)),<-az (t_ made (bj ?_))];show bO _ _ (holding [.builtin "bytearray.__new__"] (call (.builtin "bytearray.__new__") [.type "bytearray"] []) >>= λ_=>_) _ _ _;refine az (bK (bc (wpAny_call (codeAny_mono (Mu (Q₁:=λv c=>v=.ref s.heap.objs.size/\c={s with heap:=s.heap.push {cls:=.type "bytearray",data:=.bytearray #[]}}) (Ex:=λ_ _=>False) ⟨rfl,rfl⟩) λr c z=>?_))));rcases r with e|(v|_|_|v)
 ·exact z.elim
 ·exact z.elim
 ·exact z.elim
 ·exact z.elim
 erw[aD z,(j i)];subst j;subst i;have f:kD (s.heap.push {cls:=.type "bytearray",data:=.bytearray #[]}) s.heap.objs.size #[]:=⟨#[],dw _ rfl⟩;erw[<-az (bc (wpAny_isInstance f.typ sub ?_)),<-az (bK ?_),<-az (bc (wpAny_specialOf f.typ xE.lookup ?_)),bK,<-az (bj (az (sI (kR (Ta f (R:=λr c=>r=.ok (.ret .none)/\∃a,c={s with heap:=a}/\(∀b o,s.heap.get? b=some o->a.get? b=some o)/\kD a s.heap.objs.size #[]) ?_) λr c z=>?_))))]
 ·erw[(h1 h2),<-⟨rfl,_,rfl,λb o e=>?_,h1⟩];have g:b≠s.heap.objs.size:=λq=>by subst q;rw[none_at_size] at e;injection e
  exact(h2.2 b g).trans (bB _ e)
 ·erw[aD z,(l p)];subst l;erw[cY p,(a u k d)];subst u;exact bj (bj (h a k d))
theorem sy:Slot "bytearray" "append" "bytearray.append":=
 .of (owner:= "bytearray") (n:= "append") (by rewrite[dD];erw[aj bZ];kernel_rfl) (by decide+kernel) (by decide+kernel) (by decide+kernel)
  (by first|exact .inl (by decide+kernel)|exact .inr (by decide+kernel)) (by rw[q5];kernel_rfl)
theorem tm:Slot "bytearray" "extend" "bytearray.extend":=
 .of (owner:= "bytearray") (n:= "extend") (by rewrite[dD];erw[aj bZ];kernel_rfl) (by decide+kernel) (by decide+kernel) (by decide+kernel)
  (by first|exact .inl (by decide+kernel)|exact .inr (by decide+kernel)) (by rw[q5];kernel_rfl)
theorem DX:typeOf (.builtin "bytearray.append")=pure (.type "method_descriptor"):=by first|rfl|kernel_rfl
theorem Eo:typeOf (.builtin "bytearray.extend")=pure (.type "method_descriptor"):=by first|rfl|kernel_rfl
theorem Dd:entryFor table "bytearray.append"=some Builtin.«bytearray.append»:=by first|exact nJ (by kernel_rfl)|exact nK (by kernel_rfl)
theorem Ce:entryFor table "bytearray.extend"=some Builtin.«bytearray.extend»:=by first|exact nJ (by kernel_rfl)|exact nK (by kernel_rfl)
theorem DZ(a b:Value):argsOk "bytearray.append" ⟨[a,b],[]⟩:=by unfold argsOk;kernel_rfl
theorem Ea(a b:Value):argsOk "bytearray.extend" ⟨[a,b],[]⟩:=by unfold argsOk;kernel_rfl
theorem jx:nH (.type "bytes") "__buffer__"=pure (some (.builtin "bytes.__buffer__")):=by rewrite[dD];refine' aj bZ ?_;kernel_rfl
theorem EE:nH (.type "bytes") "__release_buffer__"=pure none:=by rewrite[dD];refine' aj bZ ?_;kernel_rfl
theorem IY:("bytes.__buffer__".endsWith ("." ++ "__buffer__"))=true:=by decide+kernel
set_option linter.deprecated false in
theorem JG: "bytes.__buffer__".dropRight ("__buffer__".length+1)= "bytes":=by decide+kernel
theorem Nq{S:Addr}(a:kD s.heap S b)(h0:0<=i)(h1:i<256)(f:b.size<iq)(h:∀c,kD c S (b.push i.toNat.toUInt8)->eo S s.heap c->Q .none {s with heap:=c}):bO (model af w) A (call (.builtin "bytearray.append") [.ref S,.int i t]) Q Ex s:=by
 erw[<-sI (lU (by decide+kernel) sy.plain Dd (sy.check _ _ _ _ _ _ _ _ a.typ (DZ _ _) ?_)),<-az (t_ rfl (bj ?_)),<-az (az (t_ rfl (bj ?_)))];have g:(decide (i<0) ||decide (i≥256))=false:=by simp only[Bool.or_eq_false_iff,decide_eq_false_iff_not];exact⟨λe=>U5 [(yn 0,cN),(ys cN,yn 0)] rt h0 e,λd=>U5 [(ys cN,yn 256),(yn 256,cN)] rt h1 d⟩
 erw[aj (tJ g),bj,<-az (uV a ?_),<-az (bc (xr a (by rw[Array.size_push];exact XC f) λh1 h2=>bj (h _ h1 h2)))]
theorem MV(h:Q true s):bP (model af w) A (nL (.bytes c t) "__buffer__") Q Ex s:=by
 refine wpAny_bind (wpAny_specialOf (typeIs_bytes _ c t) jx ?_);show bP _ A (if(!"bytes.__buffer__".endsWith ("." ++ "__buffer__"))=true then _ else _) _ _ _;erw[aj IY,nM,aj JG,<-wpAny_isInstance (typeIs_bytes _ c t) F.bm_sub h]
theorem Jk{id:String}(h:Q (some c) s):bP (model af w) A (jB id (.bytes c t) full) Q Ex s:=by
 erw[<-wpAny_bind (wpAny_specialOf (typeIs_bytes _ c t) jx ?_),<-wpAny_bind (MV ?_),nM,<-wpAny_bind (wpAny_specialOf (typeIs_bytes _ c t) jx ?_),<-wpAny_bind (wpAny_bind (wpAny_bind (wpAny_specialOf (typeIs_bytes _ c t) EE (wpAny_pure (wpAny_pure ?_))))),nM,<-wpAny_bind (wpAny_of_eq rfl (wpAny_pure h))]
theorem Kh{id:String}(h:Q (some (c,none)) s):bP (model af w) A (Builtin.Bytes.takeBufferQuiet? id (.bytes c t) 0) Q Ex s:=by
 erw[<-wpAny_bind (wpAny_attempt ?_),<-wpAny_bind (wpAny_specialOf (typeIs_bytes _ c t) jx ?_),<-wpAny_bind (MV ?_),nM,<-wpAny_bind (wpAny_specialOf (typeIs_bytes _ c t) jx ?_),<-wpAny_bind (Jk (wpAny_pure (wpAny_pure h)))]
theorem KH{S:Addr}(g:kD s.heap S b)(j:b.size+c.size<=iq)(h:∀i,kD i S (b++c)->eo S s.heap i->Q .none {s with heap:=i}):bO (model af w) A (call (.builtin "bytearray.extend") [.ref S,.bytes c t]) Q Ex s:=by
 erw[<-sI (lU (by decide+kernel) tm.plain Ce (tm.check _ _ _ _ _ _ _ _ g.typ (Ea _ _) ?_)),<-az (t_ rfl (bj ?_)),<-az (bc (wpAny_specialOf (typeIs_bytes _ c t) jx ?_)),<-az (FX ?_),<-az (bc (B5 g ?_)),<-az (bc (Kh ?_))];show bO _ _ (if(none:Option Value).isNone=true then _ else _) _ _ _;have a:bO (model af w) A.in1 (do q6 (.ref S) (· ++c);ret .none) (λa d=>match a with| .done f=>(match Except.ok f with| .ok (.ret v)=>Q v d| .ok _=>False| .error e=>Ex e d)| .again c'=>c'.quiet=true/\dV (model af w) A c' (λr d=>match r with| .ok (.ret v)=>Q v d| .ok _=>False| .error e=>Ex e d) d) (λe d=>Ex e d) s:=by
  exact az (bc (xr g (aj Array.size_append j) λh1 h2=>bj (h _ h1 h2)))
 show bO _ _ (if(!c.isEmpty)=true then(ya (.ref S) >>= λ_=>(do q6 (.ref S) (· ++c);ret .none)) else(do q6 (.ref S) (· ++c);ret .none)) _ _ _;cases k:(!c.isEmpty)
 ·exact a
 ·exact az (uV g a)
end BA
namespace BA
theorem Lf:nH (.type "bytearray") "__bytes__"=pure none:=by rewrite[dD];refine' aj bZ ?_;kernel_rfl
theorem noindex:nH (.type "bytearray") "__index__"=pure none:=by rewrite[dD];refine' aj bZ ?_;kernel_rfl
theorem Tx:nH (.type "bytes") "__bytes__"=pure (some (.builtin "bytes.__bytes__")):=by rewrite[dD];refine' aj bZ ?_;kernel_rfl
theorem US{S:Addr}(h:kD s.heap S b)(c:b.size<=iq)(a:Q (.bytes b s.toks) {s with toks:=s.toks+1}):
  codeAny (model af w) A (.call (.builtin "bytes.__new__") ⟨[.type "bytes",.ref S],[]⟩) (wants Q Ex) s:=by
 erw[Fh];show bP _ A.in1 (do checkBuiltinCall "bytes.__new__" ⟨[.type "bytes",.ref S],[]⟩;again (.builtin "bytes.__new__" ⟨[.type "bytes",.ref S],[]⟩)) _ _ s;erw[<-wpAny_bind (wpAny_of_eq (F.bm_newCall _) (wpAny_pure ⟨plainId_quiet Fi _,Fj F.bm_entry ?_⟩)),aj (ug Fi _),bf (id h),(sl d)];unfold Builtin.«bytes.__new__»;erw[<-wpAny_bind (wpAny_of_eq rfl ?_),iJ rfl,<-wpAny_bind (wpAny_of_eq F.bm_sub ?_),iJ rfl,<-wpAny_bind (wpAny_of_eq (F.bm_bind _) ?_),<-wpAny_bind (wpAny_of_eq rfl ?_),<-wpAny_bind (wpAny_of_eq rfl ?_),iJ rfl,<-wpAny_bind (wpAny_specialOf h.typ Lf ?_),<-wpAny_bind (wpAny_bind ?_),<-wpAny_bind (wpAny_load d ?_),<-wpAny_pure (wpAny_pure ?_),iJ rfl,<-wpAny_bind (wpAny_specialOf h.typ noindex ?_),q7 rfl]
 first
  |show bP _ _ (jB "bytes.__new__" (.ref S) true>>= _) _ _ _
  |(refine wpAny_bind ?_;show bP _ _ (jB "bytes.__new__" (.ref S) true>>= _) _ _ _)
 erw[<-wpAny_bind (MP h ?_),<-wpAny_bind (wpAny_rule ?_),<-wpAny_bind (wpAny_mkBytes ?_ c),q7 (dc rfl)]
 first
  |exact wpAny_pure a
  |exact wpAny_bind (wpAny_pure (wpAny_pure a))
  |exact wpAny_bind (wpAny_pure a)
theorem Rx(h:Q (.bytes b t) s):
  codeAny (model af w) A (.call (.builtin "bytes.__new__") ⟨[.type "bytes",.bytes b t],[]⟩) (wants Q Ex) s:=by
 erw[Fh];show bP _ A.in1 (do checkBuiltinCall "bytes.__new__" ⟨[.type "bytes",.bytes b t],[]⟩;again (.builtin "bytes.__new__" ⟨[.type "bytes",.bytes b t],[]⟩)) _ _ s;erw[<-wpAny_bind (wpAny_of_eq (F.bm_newCall _) (wpAny_pure ⟨plainId_quiet Fi _,Fj F.bm_entry ?_⟩)),aj (ug Fi _)];unfold Builtin.«bytes.__new__»;erw[<-wpAny_bind (wpAny_of_eq rfl ?_),iJ rfl,<-wpAny_bind (wpAny_of_eq F.bm_sub ?_),iJ rfl,<-wpAny_bind (wpAny_of_eq (F.bm_bind _) ?_),<-wpAny_bind (wpAny_of_eq rfl ?_),<-wpAny_bind (wpAny_of_eq rfl ?_),iJ rfl,<-wpAny_bind (wpAny_specialOf (typeIs_bytes _ b t) Tx ?_),<-wpAny_bind (wpAny_rule ?_),<-wpAny_bind (wpAny_typeOf (typeIs_bytes _ b t) ?_),q7 (dc rfl),q7 (dc rfl)]
 first
  |exact wpAny_pure h
  |exact wpAny_bind (wpAny_pure (wpAny_pure h))
  |exact wpAny_bind (wpAny_pure h)
theorem Bh{S:Addr}(d:kD s.heap S b)(h:b.size<=iq)(e:Q (.bytes b s.toks) {s with toks:=s.toks+1}):bP (model af w) A (call (.type "bytes") [.ref S]) Q Ex s:=by
 erw[callType_codes (Q₁:=λo a=>a.TypeIs o "bytes" /\Q o a) rA (F.bm_typeCall _) F.entry_object_init (US d h ⟨typeIs_bytes _ _ _,e⟩),(o a c),<-⟨c.1,F.args_object_init_2 o _,object_init_meets rA.init.lookup rA.made (dc rfl) af w A.in1 _ a ⟨c.1,rfl,c.2⟩⟩]
theorem Bi(h:Q (.bytes b t) s):bP (model af w) A (call (.type "bytes") [.bytes b t]) Q Ex s:=by
 erw[callType_codes (Q₁:=λo a=>a.TypeIs o "bytes" /\Q o a) rA (F.bm_typeCall _) F.entry_object_init (Rx ⟨typeIs_bytes _ _ _,h⟩),(o a c),<-⟨c.1,F.args_object_init_2 o _,object_init_meets rA.init.lookup rA.made (dc rfl) af w A.in1 _ a ⟨c.1,rfl,c.2⟩⟩]
end BA
namespace BA
theorem xt:Slot "bytes" "join" "bytes.join":=
 .of (owner:= "bytes") (n:= "join") (by rewrite[dD];erw[aj bZ];kernel_rfl) (by decide+kernel) (by decide+kernel) (by decide+kernel)
  (by first|exact .inl (by decide+kernel)|exact .inr (by decide+kernel)) (by rw[q5];kernel_rfl)
theorem IQ:typeOf (.builtin "bytes.join")=pure (.type "method_descriptor"):=by first|rfl|kernel_rfl
theorem G8:entryFor table "bytes.join"=some Builtin.«bytes.join»:=by first|exact nJ (by kernel_rfl)|exact nK (by kernel_rfl)
theorem IZ(a b:Value):argsOk "bytes.join" ⟨[a,b],[]⟩:=by unfold argsOk;kernel_rfl
inductive qX:List Value->List (Array UInt8)->Prop
 |nil:qX [] []
 |cons (b:Array UInt8) (t:Tok) {vs bs}:qX vs bs->qX (.bytes b t::vs) (b::bs)
theorem qX.length(r:qX vs bs):vs.length=bs.length:=by
 induction r with
 |nil=>rfl
 |cons b t _ i=>exact congrArg (· +1) i
theorem qX.at(r:qX vs bs):∀{i:Nat},bs[i]?=some b->∃t,vs[i]?=some (.bytes b t):=by
 induction r with
 |nil=>exact λ{i} h=>absurd (List.getElem?_nil.symm.trans h) (λq=>nomatch q)
 |cons c t _ a=>exact λ{i}=>i.casesOn (λh=>⟨t,congrArg (λc=>some (Value.bytes c t)) (bV h)⟩) λi h=>a h
theorem qX.OG(i:Nat)(r:qX vs bs):((vs.take i).map λv=>((v,none):Value×Option Value)).any (·.1.onHeap)=false:=by
 induction r generalizing i with
 |nil=>cases i<;>rfl
 |cons b t _ a=>exact i.casesOn rfl λi=>a i
theorem G9(b:List (Array UInt8)):A5 #[] b=b.foldl (· ++ ·) #[]:=by
 unfold A5;have k:∀(l:List (Array UInt8)) n c,(l.zipIdx n).foldl (λo (p,i)=>(if i>0 then o++#[] else o)++p) c=l.foldl (· ++ ·) c:=by
  intro l
  induction l with
  |nil=>intros;rfl
  |cons a l d=>
   erw[(n c),aj List.zipIdx_cons,aj tQ,aj tQ];rewrite[d]
   congr 1
   show(if n>0 then c++#[] else c)++a=c++a
   split<;>simp
 exact k b 0 #[]
theorem BF(b:List (Array UInt8))(c:Array UInt8):(b.foldl (· ++ ·) c).toList=c.toList++(b.map nN).flatten:=by
 induction b generalizing c with
 |nil=>simp
 |cons a l i=>refine' aj tQ ?_;rewrite[i];simp
theorem Vt(d:List (Array UInt8))(c:Nat):d.foldl (λn b=>n+b.size) c=c+(d.map nN).flatten.length:=by
 induction d generalizing c with
 |nil=>simp
 |cons a l i=>refine' aj tQ ?_;rewrite[i];simp;exact VD
theorem yv{M:Model}(h:Q () s):∀(l:List Value),bP M A (Builtin.Bytes.joinLetGo (l.map λv=>((v,none):Value×Option Value)) keep) Q Ex s
 |[]=>wpAny_pure h
 |x::r=>by
  simp only[du];exact wpAny_bind (wpAny_letGo (yv h r))
theorem RC{B:Array Value->Sem γ}{P:Sem γ->Prop}(h1:∀x,items.toList=[x]->P (F x))(h2:P (B items)):P (Builtin.Bytes.joinM.match_1 (λ_=>Sem γ) items F B):=by
 rcases items with⟨_|⟨x,_|⟨y,r⟩⟩⟩
 ·exact h2
 ·exact h1 x rfl
 ·exact h2
set_option maxHeartbeats 1000000 in
theorem IV(hl:s.heap.IsList a items)(d:qX items.toList bs)(q:(bs.map nN).flatten.length<=iq)(y:∀t' k,Q (.bytes (bs.foldl (· ++ ·) #[]) t') {s with toks:=k}):bP (model af w) A (call (.builtin "bytes.join") [.bytes #[] t,.ref a]) Q Ex s:=by
 erw[<-wpAny_call (codeAny_call_builtin xt.plain G8 (xt.check _ _ _ _ _ _ _ _ (typeIs_bytes _ _ _) (IZ _ _) ?_)),cY (id hl),(o l G D),bf D,(E n)];unfold Builtin.«bytes.join» Builtin.Bytes.joinM;erw[<-wpAny_bind (wpAny_of_eq rfl ?_),wpAny_bind];unfold Builtin.Bytes.joinItems;erw[<-wpAny_bind (wpAny_typeOf hl.typeIs ?_),<-q7 rfl (wpAny_pure ?_),<-wpAny_bind (wpAny_seqItems l n ?_),q7 rfl];have z:=d.length;erw[RC (P:=λm=>bP _ _ m _ _ _) (λx C=>?_)]
 ·rw[C] at d;cases d with
  |cons b t0 d=>
   cases d;erw[<-wpAny_bind (wpAny_typeOf (typeIs_bytes _ _ _) ?_),q7 rfl,<-wpAny_bind (wpAny_rule (wpAny_pure ?_))];have:=y t0 s.toks
   simpa using this
 ·erw[wpAny_bind];rw[Std.Legacy.Range.forIn_eq_forIn_range'];refine wpAny_forIn_list _ (λr b g=>g=s/\∃i,i<=items.size/\r=List.range' i (items.size-i)/\b=((bs.take i).toArray,(items.toList.take i).map λv=>(v,none))) _ ?_ ?_ _ _ ?_
  ·rintro x r b g ⟨rfl,i,hi,hr,rfl⟩
   have c:i<items.size:=by
    rcases Nat.lt_or_ge i items.size with h|h
    ·exact h
    ·rw[JK h] at hr;cases hr
   obtain ⟨j,f⟩:∃j,items.size-i=j+1:=⟨items.size-i-1,aa9 c⟩
   rw[f,List.range'_succ] at hr;injection hr with h1 h2
   have X:=h1.symm;subst X;have e:=(have this:=(by simp);aaw c this z);erw[bf (d.at (bx e)),(B u)];have p:items.getD i ll=.bytes bs[i] B:=by
    erw[aj (Array.getD_eq_getD_getElem?),c_ (Array.getElem?_toList),aj u];rfl
   refine wpAny_bind (wpAny_seqItems l n ?_);dsimp only;erw[aj p,iJ (aj (d.OG i) rfl),<-wpAny_bind (wpAny_holding (Kh ?_)),<-wpAny_bind (wpAny_seqItems l n ?_),iJ (by simp),<-wpAny_pure ⟨rfl,i+1,c,?_,?_⟩]
   ·erw[aj h2,aj (show items.size-(i+1)=j by exact aad f)];rfl
   ·congr 1
    ·erw[aj iK,aj (bx e)];simp
    ·erw[aj iK,aj u];simp
  ·rintro b g ⟨rfl,i,hi,hr,rfl⟩
   have:i=items.size:=by
    have:=congrArg cF hr
    simp at this
    exact aaP this hi
   subst this;have e1:bs.take items.size=bs:=d6 (have this:=(by simp);abp z this);have e2:items.toList.take items.size=items.toList:=d6 (by simp);dsimp only;erw[aj e1,aj e2,<-wpAny_bind (wpAny_of_eq rfl ?_)];have f:=G9 bs;have F:(bs.foldl (· ++ ·) #[]).size=(bs.map nN).flatten.length:=by
    erw[c_ vJ];rewrite[BF];simp
   refine iJ ?_ ?_
   ·unfold Builtin.Bytes.tooLong;simp only[decide_eq_false_iff_not];have:=Vt bs 0;simp only[List.foldl_toArray',Array.size_empty,Nat.zero_mul];erw[aj this,<-abj q]
   ·erw[wpAny_bind,aj f,<-wpAny_mkBytes ?_ (aj F q),<-wpAny_bind (wpAny_holding (wpAny_point (wpAny_bind ?_))),<-yv ?_ items.toList,<-wpAny_pure (y _ _)]
  ·exact⟨rfl,0,ia _,by simp[List.range'_eq_map_range,Std.Legacy.Range.size],by simp⟩
end BA
theorem CP(x:ub G h a (.c9 b)):∃f,BA.kD h a f/\f.toList=b:=by
 erw[f9 x,(m f l j k e)];rcases m with⟨c,d,dt,sl⟩
 erw[aD k,(i g)];simp only at j i g;subst j;subst i;subst g;exact⟨f,⟨sl,l⟩,e⟩
theorem kD.CS(x:BA.kD h a b')(e:b'.toList=b):ub G h a (.c9 b):=let⟨_,ho⟩:=x;⟨_,b',ho,rfl,⟨rfl,rfl⟩,e⟩
theorem FZ(l:List Int):(byteArr l).toList=toBytes l:=by unfold byteArr toBytes;rfl
theorem Jt(f:A.handled=none)(r:cZ s.heap a x)(S:Sat K N au ρ B ak os H s)(h:jR .bytes [x] H Q):bP (model af w) A (call (.type "bytes") [a]) (PV K N au ρ B ak os Q) Ex s:=by
 induction x using V.casesOn with
 |ref b=>
  have e:=r.inv;subst e;have h:(match H b with|some (.c9 b)=>b.length<=1000000/\Q (.bytes b) H|_=>jZ H b λv=>∃l,lh v=some l/\(∀i∈l,0<=i/\i<256)/\l.length<=1000/\Q (.bytes (toBytes l)) H):=h;cases e:H b with
  |none=>rw[e] at h;unfold jZ at h;rw[e] at h;exact h.elim
  |some m=>
   rw[e] at h
   induction m using MO.casesOn with
   |c9 n=>
    erw[ay (CP (S.h.rel.obj b _ e)),(z g e2),BA.Bh g (aj sizeLine_eq (c_ vJ (aj e2 (aF h.1 (dc rfl))))),<-⟨_,H,.bytes _ _,?_,S.tok _⟩,aj e2,<-h.2]
   |inst C y=>unfold jZ at h;rw[e] at h;exact h.elim
   |list v=>
    unfold jZ at h;rw[e] at h;erw[fh h,(o h1 h2 h3 q)]
    obtain rfl:=wu h1
    erw[ay (eV S e),(D hl r)];have j:=r.length;erw[call_bytes_ints hl (intsAre_of r) h2 (by erw[aj j];rewrite[aq];erw[aj sizeLine_eq,<-dM h3 rfl]) f,(u t k d),<-⟨_,H,.bytes _ _,?_,S.grow d S.h.gens S.h.os⟩];rw[FZ];exact q
 |bytes b=>
  erw[df r.inv,(n t c p)];subst c;subst p;exact BA.Bi ⟨_,H,.bytes _ _,h,S⟩
 |_=>exact h.elim
theorem Kw(S:Sat K N au ρ B ak os H s)(h:jR .c9 [] H Q):bO (model af w) A (call (.type "bytearray") []) (PV K N au ρ B ak os Q) Ex s:=by
 erw[BA.Rq,(b k a),<-⟨_,_,.ref _,h.2 _ S.fresh,S.new k (none_at_size _) rfl (kD.CS a rfl) S.h.gens S.h.os⟩]
noncomputable def V3:E8->Bool
 | .fn _=>false
 | .cls _ _=>false
 |_=>true
theorem YJ(r:bU h aQ vs)(q:OM vs f):∃a v,vs=[.ref a]/\aQ=[v]/\cZ h v (.ref a)/\f a:=by
 erw[ay (SK q),(a u q)];subst u;erw[dg r.inv,(v vs x c b)];subst x;have e:=b.Pa;subst e;exact⟨a,v,rfl,rfl,c,q⟩
theorem sq(r:bU h aQ [x]):∃v,aQ=[v]/\cZ h v x:=by
 erw[dg r.inv,(v c C b a)];subst C;have e:=a.Pa;subst e;exact⟨v,rfl,b⟩
theorem D4(f:V3 c=true)(d:A.handled=none)(r:bU s.heap aQ vs)(S:Sat K N au ρ B ak os H s)(h:jR c vs H Q):bO (model af w) A (call (G_ c) aQ) (PV K N au ρ B ak os Q) Ex s:=by
 induction c using E8.casesOn with
 |fn=>injection f
 |cls=>injection f
 |len=>
  obtain ⟨x,rfl⟩:∃x,vs=[x]:=by
   induction vs using lcs with
   |nil=>exact h.elim
   |cons x l=>induction l using lcs with
    |nil=>exact⟨x,rfl⟩
    |cons=>induction x using V.casesOn<;>exact h.elim
  erw[ay (sq r),(v E b)];subst E;exact bc (Pp b S h)
 |bytes=>
  obtain ⟨x,rfl⟩:∃x,vs=[x]:=by
   induction vs using lcs with
   |nil=>exact h.elim
   |cons x l=>induction l using lcs with
    |nil=>exact⟨x,rfl⟩
    |cons=>induction x using V.casesOn<;>exact h.elim
  erw[ay (sq r),(v D b)];subst D;exact bc (Jt d b S h)
 |c9=>
  erw[aD h];clear h;intro i h;subst i;have e:=r.Pa;subst e;exact Kw S ⟨rfl,h⟩
 |sorted=>refine f9 (YJ r h) ?_;intro a v g z b _;subst g;subst z;exact bc (GI b S h)
 |tuple=>refine f9 (YJ r h) ?_;intro a v C G b _;subst C;subst G;exact bc (IL b S h)
 |list=>refine f9 (YJ r h) ?_;intro a v p L b _;subst p;subst L;exact bc (LP b S h)
 |sum=>refine f9 (YJ r h) ?_;intro a v n m b _;subst n;subst m;exact bc (OQ d b S h)
 |min=>
  obtain ⟨x,y,rfl⟩:∃x y,vs=[x,y]:=by
   induction vs using lcs with
   |nil=>exact h.elim
   |cons x l=>induction l using lcs with
    |nil=>induction x using V.casesOn<;>exact h.elim
    |cons y l=>induction l using lcs with
     |nil=>exact⟨x,y,rfl⟩
     |cons=>induction x using V.casesOn<;>cases y<;>exact h.elim
  erw[dg r.inv,(v vs o b k)];subst o;erw[ay (sq k),(q M j)];subst M;exact bc (OY d b j S h)
theorem uG:PlainAttrs "bytearray":=
 ⟨⟨"bytearray.__getattribute__",by rewrite[dD];erw[aj bZ];kernel_rfl,by decide+kernel⟩,by rewrite[dD];erw[aj bZ];kernel_rfl⟩
theorem K8:∀m,m<18->∀k,k<27->Aa m≠atName k:=by decide+kernel
theorem SN(X:K.In s.heap)(f:makesIn K C=true)(j:findIn K (.ref C) "__init__"=some (some (.ref fI)))(l:isFn K (.ref fI)=true)(h:dV (model af w) (A.under (.builtin "type.__call__" ⟨.ref C::aQ,[]⟩)) (.call (.ref fI) ⟨.ref (s.heap.objs.size+1)::aQ,[]⟩) (InitBack (s.heap.objs.size+1) R) {s with heap:=(s.heap.push iu).push (instObj C s.heap.objs.size)}):
  dV (model af w) A (.call (.ref C) ⟨aQ,[]⟩) R s:=by
 rcases s with⟨h₀,g,d,t,os⟩
 have Y:=makes_of (M:=model af w) X f;rcases id Y with⟨⟨oc,od,cd,sl,hC,e1,e2,e4⟩,made,dZ,self,top,call,typ⟩
 erw[gH rfl,<-az (bc (wpAny_load hC ?_))];unfold callAny.viaDunder;refine az (bc (call.at ?_));dsimp only;rw[tc_bind];erw[<-az (bj (az (bj ?_))),<-bj (Hd rfl ?_),gH rfl];show bO _ A.in1 (do checkBuiltinCall "type.__call__" ⟨.ref C::aQ,[]⟩;again (.builtin "type.__call__" ⟨.ref C::aQ,[]⟩)) _ _ _;refine az (bc (check_slot tc_kind tc_split typ (tc_args _ _ _) (bj (Hd (Code.quiet_builtin _ (by decide+kernel)) (BA.uQ (by decide+kernel) entry_typeCall ?_)))));unfold Builtin.«type.__call__»;have a:Looks (model af w) h₀ (mroOf (.ref C)) cd.mro:=((Looks.ld hC).andThen .now).andThen .now;show bO _ _ (if(iz C==Value.type "type")=true then _ else _) _ _ _;erw[aj (BA.tJ rfl),<-az (bc (a.at ?_)),aj (BA.tJ e4),<-az (bc (made.at ?_))];show bO _ _ (holding [.builtin "object.__new__"] (PySem.call (.builtin "object.__new__") (.ref C::aQ) []) >>= λ_=>_) _ _ _;have L:=looks_findIn (M:=model af w) X j;refine az (bK (bc (wpAny_call (new_K Y L (.inl rfl) ?_))));have k:∀b o,h₀.get? b=some o->((h₀.push iu).push (instObj C h₀.objs.size)).get? b=some o:=λb o e=>bB _ (bB _ e);have c:((h₀.push iu).push (instObj C h₀.objs.size)).get? (h₀.objs.size+1)=some (instObj C h₀.objs.size):=by heap_get
 have t1:Looks (model af w) ((h₀.push iu).push (instObj C h₀.objs.size)) (typeOf (.ref (h₀.objs.size+1))) (.ref C):=(Looks.ld c).andThen .now;have s1:=self.keeps k;have i:=L.keeps k;have n:Looks (model af w) ((h₀.push iu).push (instObj C h₀.objs.size)) (bindSpecial (.ref fI) (.ref (h₀.objs.size+1))) (.ref fI,[.ref (h₀.objs.size+1)]):=(bind_fn X _ (beq_iff_eq.mp l)).keeps k;erw[<-az (bc ((t1.andThen s1:Looks _ _ (isInstance _ _) _).at ?_)),aj (BA.tJ (show(!true)=false from rfl)),<-az (bK ?_)];unfold callSpecial?;erw[<-az (bc ((t1.andThen i).at ?_)),<-bK (az (bc (n.at ?_))),<-az (sI (kR h λr p z=>?_))];rcases r with e|(v|_|_|v)<;>first|exact z|exact z.elim|skip
 erw[aD z];clear z;intro m z;subst m;exact bj (bj z)
theorem noStar:∀x p,jb m y≠.Starred x p:=λx p q=>Bool.noConfusion ((congrArg nA q).symm.trans (tF m y))
theorem fX:∀{ms:List E} {xs:List di},(starEach (w9 ms xs) au).any (·.1)=false
 |[],_=>rfl
 |m::ms,xs=>by
  erw[aj (kS noStar),aj List.any_cons,aj fX];rfl
theorem NM(h:dm af w K T n m ρ H Q X):hM af w K T n [m] ρ H (λvs a=>∃v,vs=[v]/\Q v a) X:=by
 have e:(λv a=>hM af w K T n [] ρ a (λvs c=>∃u,v::vs=[u]/\Q u c) X)=Q:=by
  funext v a
  exact propext ⟨λq=>by erw[ay (q:∃u,[v]=[u]/\Q u a),(u e q)];injection e with e _;erw[aj e,<-q],λq=>⟨v,rfl,q⟩⟩
 show dm af w K T n m ρ H (λv a=>hM af w K T n [] ρ a (λvs c=>∃u,v::vs=[u]/\Q u c) X) X;erw[aj e,<-h]
def Q1(Q:V->Hp->Prop)(aQ:List Value)(h:Heap)(H:Hp):Prop:=∃v x,aQ=[v]/\cZ h v x/\Q x H
theorem Ad.one(h1:Ad af w K T n N au A l ak os [m] t)(S:Sat K N au ρ B ak os H s)(h:dm af w K T n m ρ H Q X):
  bO (model af w) A t (PG K N au ρ B ak os (Q1 Q)) (PE K N au ρ B ak os l X) s:=
 p_mono (h1 _ _ _ _ _ _ S (NM h)) (λk j z=>by
  erw[ay z,(a g i),cY g,(b r _ f),ay (show ∃v,b=[v]/\Q v a from f),(v e q),ay (sq (e▸r)),(c e d)];exact⟨a,⟨c,v,e,d,q⟩,i⟩) λ_ _ z=>z
theorem kC.CK(R:kC G H h)(k:∀b o,h.get? b=some o->h'.get? b=some o)(I:h.get? c=none)(A:h.get? d=none)(F:ub G h' c (.inst C fs))(p:sD h' c=some d)(E:c≠d):
  kC G (upd H c (.inst C fs)) h'/\∀a,FP (upd H c (.inst C fs)) h' a->a=c\/a=d\/FP H h a:=by
 have B:=R.keep (ju.of_keeps k) (λ_ _=>id) (λ_ _ _=>id);have n:∀{x},h.get? x=none->H x=none:=λ{x} e=>by
  cases q:H x with
  |none=>rfl
  |some m=>refine ay ((R.obj _ _ q).pC) ?_;intro o s _;rw[e] at s;injection s
 have w:∀{x},ey (H x)=true->sD h' x=sD h x:=λ{x} l=>R.pN (S:=λ_=>False) (ju.of_keeps k) (eZ l) id;have t:∀{x y},ey (H x)=true->sD h x=some y->h.get? y≠none:=λ{x y} l e q=>by
  erw[ay (R.own (.inr ⟨x,l,e⟩)),(o s _)];rw[q] at s;injection s
 have j:∀{x},x≠c->ey (upd H c (.inst C fs) x)=true->ey (H x)=true:=λ{x} l e=>by rwa [dr _ _ l] at e
 refine⟨⟨λa m e=>?_,λx y z l D h1 h2=>?_,λx z l h1=>?_⟩,λa f=>?_⟩
 ·by_cases q:a=c
  ·replace q:=q.symm;subst q;rw[cX] at e;injection e with e;subst e;exact F
  ·rw[dr _ _ q] at e;exact B.obj a m e
 ·by_cases i:x=c
  ·by_cases r:y=c
   ·erw[aj i,aj r];rfl
   ·replace i:=i.symm;subst i;rw[p] at h1;injection h1 with h1;subst h1
    have u:=j r D;rw[w u] at h2;exact absurd A (t u h2)
  ·by_cases r:y=c
   ·replace r:=r.symm;subst r;rw[p] at h2;injection h2 with h2;subst h2
    have g:=j i l;rw[w g] at h1;exact absurd A (t g h1)
   ·exact B.inj x y z (j i l) (j r D) h1 h2
 ·by_cases i:x=c
  ·replace i:=i.symm;subst i;rw[p] at h1;injection h1 with h1;subst h1
   erw[aj (dr _ _ (aJ E)),<-n A]
  ·have g:=j i l;have v:=h1;rw[w g] at v;have:z≠c:=λq=>by replace q:=q.symm;subst q;exact t g v I
   erw[aj (dr _ _ this),<-B.off x z g h1]
 ·rcases f with f|⟨x,l,h1⟩
  ·by_cases q:a=c
   ·exact .inl q
   ·rw[dr _ _ q] at f;exact .inr (.inr (.inl f))
  ·by_cases i:x=c
   ·replace i:=i.symm;subst i;rw[p] at h1;injection h1 with h1;subst h1;exact .inr (.inl rfl)
   ·have g:=j i l;rw[w g] at h1;exact .inr (.inr (.inr ⟨x,g,h1⟩))
theorem Sat.CK(S:Sat K N au ρ B ak os H s)(z:rU K C=true):
  Sat K N au ρ B ak os (upd H (s.heap.objs.size+1) (.inst C [])) {s with heap:=(s.heap.push iu).push (instObj C s.heap.objs.size)}/\H (s.heap.objs.size+1)=none:=by
 have k:∀b o,s.heap.get? b=some o->((s.heap.push iu).push (instObj C s.heap.objs.size)).get? b=some o:=λb o e=>bB _ (bB _ e);have u:((s.heap.push iu).push (instObj C s.heap.objs.size)).get? (s.heap.objs.size+1)=some (instObj C s.heap.objs.size):=by heap_get
 have n:((s.heap.push iu).push (instObj C s.heap.objs.size)).get? s.heap.objs.size=some iu:=bB _ (dw _ rfl);have X:s.heap.get? (s.heap.objs.size+1)=none:=by
  cases q:s.heap.get? (s.heap.objs.size+1) with
  |none=>rfl
  |some o=>exact absurd (eQ q) (tP.mpr (mJ _))
 have c:=none_at_size s.heap;have y:H (s.heap.objs.size+1)=none:=by
  cases q:H (s.heap.objs.size+1) with
  |none=>rfl
  |some G=>refine ay ((S.h.rel.obj _ _ q).pC) ?_;intro o r _;rw[X] at r;injection r
 have v:=S.grow (s':={s with heap:=(s.heap.push iu).push (instObj C s.heap.objs.size)}) k S.h.gens S.h.os;have D:nV ((s.heap.push iu).push (instObj C s.heap.objs.size)) s.heap.objs.size []:=
  ⟨_,#[],0,n,rfl,rfl,(λe w=>by simp at w),rfl,λk _=>rfl,λ_ _=>rfl⟩
 erw[aD (S.h.rel.CK k X c ⟨z,_,_,u,rfl,rfl,rfl,D⟩ (by unfold sD;erw[aj u];rfl) (Nat.succ_ne_self _)),(R F),<-⟨⟨⟨S.h.st,v.h.stays,R,λa f=>?_,λp l=>?_,S.h.gens,S.h.os⟩,S.f.keep (ju.of_keeps k) ((ju.of_keeps k).tup λ_ _ _=>id) (λ_ _=>id) λa o f=>?_⟩,y⟩]
 ·rcases F a f with rfl|rfl|f
  ·exact dG S.h.stays X
  ·exact dG S.h.stays c
  ·exact S.h.nU a f
 ·erw[dY (v.h.ak p l),(a b d e),<-⟨a,λf=>?_,d,e⟩,bf ((S.h.ak p l).2.2.2),(sl g)];rcases F _ f with q|q|f
  ·rw[q,X] at g;injection g
  ·rw[q,c] at g;injection g
  ·exact(S.h.ak p l).2.1 f
 ·have t:∃o,s.heap.get? a=some o:=by
   rcases o with rfl|⟨x,i,m,e⟩
   ·erw[ay S.f.ns,(_ A _),xH A,(o _ _ g _),<-⟨o,g⟩]
   ·erw[C8 (S.f.cell x i m),(I o j _ _ _ _ g _)];rw[e] at j;injection j with j;subst j;exact⟨o,g⟩
  erw[bf t,(E g)];rcases F _ f with rfl|rfl|f
  ·rw[X] at g;injection g
  ·rw[c] at g;injection g
  ·exact S.f.AW o f
def PR(K:fq)(N:dJ)(au:mA)(ρ:Loc)(B:Heap)(ak:List (Addr×Obj))(os:bL)(l:List mA)(Q:V->Hp->Prop)(X:Addr->Hp->Prop)(r:Dy)(s':Shared):Prop:=match r with
 | .ok (.ret v)=>PV K N au ρ B ak os Q v s'
 | .ok _=>False
 | .error e=>PE K N au ρ B ak os l X e s'
theorem callC(O:cU sc N au A l ak n)(g:Ar A' l n)(S:Sat K N au ρ B ak os H s)(r:bU s.heap aQ vs)(h:aZ af w K n f vs H Q X):
  dV (model af w) A' (.call (.ref f) ⟨aQ,[]⟩) (PR K N au ρ B ak os l Q X) s:=by
 erw[fh S.Dg,(o k st T c),kR (h _ _ os l A' s aQ g (S.frames O) k (r.mono T)),(r m z)];rcases r with e|(v|_|_|v)
 ·erw[iR z,(i C j b e1 x a F),<-⟨i,C,j,b,e1,x,(S.rT c a).1,Way.down st F⟩]
 ·exact z
 ·exact z
 ·exact z
 ·erw[dg z,(x b d q a),<-⟨x,b,d,q,(S.rT c a).1⟩]
theorem YN(O:cU sc N au A l ak n)(g:ND K (.cls C i))(S:Sat K N au ρ B ak os H s)(r:bU s.heap aQ vs)(h:∀a,H a=none->aZ af w K n i (.ref a::vs) (upd H a (.inst C [])) (λr D=>r=.none/\Q (.ref a) D) X):bO (model af w) A (call (.ref C) aQ) (PV K N au ρ B ak os Q) (PE K N au ρ B ak os l X) s:=by
 erw[iE g,(I u t p m),aD (S.CK m),(E y)];have k:∀b o,s.heap.get? b=some o->((s.heap.push iu).push (instObj C s.heap.objs.size)).get? b=some o:=λb o e=>bB _ (bB _ e);refine sI (SN S.Be u t p (kR (callC O (O.ar.made _ _) E (.cons (.ref _) (r.mono (ju.tup (ju.of_keeps k) λ_ _ _=>id))) (h _ y)) λr G z=>?_));rcases r with e|(v|_|_|v)
 ·exact z
 ·exact z
 ·exact z
 ·exact z
 ·erw[dg z];clear z;erw[(x F f d c),aD d];clear d;intro j q;subst j;cases f;exact⟨rfl,_,F,.ref _,q,c⟩
theorem SE.call(O:cU sc N au A l ak n)(k:TabsOk T K)(j:(x !=("__debug__":Str))=true)(d:(sc.lookup x==some .globalImplicit)=true)(e:T.glob x=some (.call c))(t:(starEach es au).any (·.1)=false)(h1:Ad af w K T n N au A l ak os ms (spliced (backTo pos (starEach es au)))):SE af w K T n N au A l ak os (.call c ms) (eval (.Call (.Name x np) es [] pos) au):=by
 erw[(ρ B H s Q X S h),aD (k.call _ _ e),(nm o),<-jm t (bc (yK O S j d nm ?_)),<-i6 S (λy m=>h1 _ _ _ _ _ _ m h) λv s1 u=>(cY · λp b hl q a r=>?_)]
 induction c using E8.casesOn with
 |fn f=>exact⟨Cj o a.Be,p_mono (QA O a b q) (λ_ _ z=>z.g) λ_ _ z=>z⟩
 |cls C i=>exact⟨Cj o.1 a.Be,p_mono (YN O o a b q) (λ_ _ z=>z.g) λ_ _ z=>z⟩
 |len=>exact⟨gJ,p_mono (D4 rfl O.ar.handled b a q) (λ_ _ z=>z.g) λ_ _ z=>z⟩
 |bytes=>exact⟨kA,p_mono (D4 rfl O.ar.handled b a q) (λ_ _ z=>z.g) λ_ _ z=>z⟩
 |c9=>exact⟨kA,p_mono (D4 rfl O.ar.handled b a q) (λ_ _ z=>z.g) λ_ _ z=>z⟩
 |sorted=>exact⟨gJ,p_mono (D4 rfl O.ar.handled b a q) (λ_ _ z=>z.g) λ_ _ z=>z⟩
 |tuple=>exact⟨kA,p_mono (D4 rfl O.ar.handled b a q) (λ_ _ z=>z.g) λ_ _ z=>z⟩
 |list=>exact⟨kA,p_mono (D4 rfl O.ar.handled b a q) (λ_ _ z=>z.g) λ_ _ z=>z⟩
 |sum=>exact⟨gJ,p_mono (D4 rfl O.ar.handled b a q) (λ_ _ z=>z.g) λ_ _ z=>z⟩
 |min=>exact⟨gJ,p_mono (D4 rfl O.ar.handled b a q) (λ_ _ z=>z.g) λ_ _ z=>z⟩
noncomputable def xS(T:lu)(κ:MK)(m:Nat):Value:=match κ with
 | .list=>if m=0 then .builtin "list.append" else .builtin "list.pop"
 | .c9=>if m=0 then .builtin "bytearray.append" else .builtin "bytearray.extend"
 | .bytes=>.builtin "bytes.join"
 | .inst C=>.ref ((T.bp C m).getD 0)
theorem sH(h:T.bp C m=some f):xS T (.inst C) m=.ref f:=by
 show iz ((T.bp C m).getD 0)=_;erw[aj h];rfl
theorem LK(P:TabsOk T K)(E:m<18)(S:Sat K N au ρ B ak os H s)(r:cZ s.heap va x)(c:mk? x H=some κ)(i:PK T κ m=true)(q:Q (xS T κ m,[va]) s):
  bP (model af w) A (getMethod va (Aa m) pl) Q Ex s:=by
 induction x using V.casesOn with
 |ref a=>
  have e:=r.inv;subst e;unfold mk? at c;dsimp only at c;cases e:H a with
  |none=>rw[e] at c;injection c
  |some u=>
   rw[e] at c
   induction u using MO.casesOn with
   |list W=>
   injection c with c;subst c
   erw[ay (wY (S.h.rel.obj a _ e)),(aQ hl r),gR hl,(p sl j)];unfold PK at i;simp only[Bool.or_eq_true,beq_iff_eq] at i;rcases i with rfl|rfl
   ·exact mq ⟨_,j,rfl⟩ Dq PySem.F.slot_list_append PySem.F.type_list_append (λa e=>by injection e with e;subst e;exact⟨_,j,rfl⟩) q
   ·exact mq ⟨_,j,rfl⟩ Dq E3 PySem.F.type_list_pop (λa e=>by injection e with e;subst e;exact⟨_,j,rfl⟩) q
   |c9 b=>
   injection c with c;subst c
   erw[ay (CP (S.h.rel.obj a _ e)),(O M _),bf M,(sl j)];unfold PK at i;simp only[Bool.or_eq_true,beq_iff_eq] at i;rcases i with rfl|rfl
   ·exact mq ⟨_,j,rfl⟩ uG BA.sy BA.DX (λa e=>by injection e with e;subst e;exact⟨_,j,rfl⟩) q
   ·exact mq ⟨_,j,rfl⟩ uG BA.tm BA.Eo (λa e=>by injection e with e;subst e;exact⟨_,j,rfl⟩) q
   |inst C fs=>
   injection c with c;subst c
   erw[bf (js.mp i),(f l),cA (P.bp _ _ _ l),(h1 h2 h3),td (zh S e),(X d n G I hd L R D),vk D,(o es p g hc U z Y J y)];rw[R] at g;injection g with g;subst g
   refine method_fn S.Be I G.ga G.gn h1 (beq_iff_eq.mp h2) ?_ ?_
   ·show(lookIn (Aa m) n).map _=_;erw[aj (yG U z),aj (y _ λk c=>K8 m E k c)];rfl
   ·rw[sH l] at q;exact q
 |bytes b=>
  erw[df r.inv,(O t v hb)];subst v;unfold mk? at c
  induction b using lcs with
  |cons=>injection c
  |nil=>
   injection c with c;subst c
   unfold PK at i
   obtain rfl:=beq_iff_eq.mp i
   exact mq (typeIs_bytes _ _ _) FB.plainAttrs_bytes BA.xt BA.IQ (λa e=>by injection e) q
 |_=>injection c
theorem LM(b:TabsOk T K)(a:PK T κ m=true)(S:Sat K N au ρ B ak os H s):vp (model af w) A (xS T κ m) Ex s:=by
 cases κ with
 |list=>unfold xS;dsimp only;split<;>exact gJ
 |c9=>unfold xS;dsimp only;split<;>exact gJ
 |bytes=>exact gJ
 |inst C=>
  erw[bf (js.mp a),(f h),aj (sH h),<-Cj (b.bp _ _ _ h).2.2 S.Be]
theorem IS(r:bU h d vs):ql vs=some b->∃a,BA.qX d a/\(a.map nN).flatten=b:=
 r.ind (M:=λd vs=>∀b,ql vs=some b->∃a,BA.qX d a/\(a.map nN).flatten=b) (λb e=>⟨[],.nil,bV e⟩) (λv x d vs r _ i b e=>by
  induction x using V.casesOn with
  |bytes l=>
   erw[ay (rn.mp (show(ql vs).map (l++ ·)=some b from e)),(f h1 h2),ay (i f h1),(a h3 h4),df r.inv,(c t e1 e2),aj e1,<-⟨c::a,.cons c t h3,by erw[aj du,aj fC,aj h4,aj e2,<-h2]⟩]
  |_=>exact nomatch (show none=some b from e)) b
theorem Wa(O:cU sc N au A l ak n)(S:Sat K N au ρ B ak os H s)(r:cZ s.heap va x)(p:bU s.heap I vs)(d:mk? x H=some κ)(h:ke af w K T n x m vs H Q X):bO (model af w) A (call (xS T κ m) (va::I)) (PV K N au ρ B ak os Q) (PE K N au ρ B ak os l X) s:=by
 induction x using V.casesOn with
 |ref a=>
  have e:=r.inv;subst e;unfold mk? at d;unfold ke at h;dsimp only at d h;cases e:H a with
  |none=>rw[e] at d;injection d
  |some mo=>
   rw[e] at d h
   induction mo using MO.casesOn with
   |list P=>
    injection d with d;subst d
    erw[aD h];clear h;intro u h;rcases h with⟨rfl,v,rfl,q⟩|⟨rfl,i,v,rfl,h0,hv,q⟩
    ·erw[ay (sq p),(z lj g)];subst lj;exact bc (appendS e u g S q)
    ·erw[ay (sq p),(z pE g)];subst pE;erw[bf g.inv,(t W)];subst W;exact bc (aal e u S h0 hv q)
   |c9 b=>
    injection d with d;subst d
    erw[aD h];clear h;erw[(u h),ay (CP (S.h.rel.obj a _ e)),(F j E)];have J:F.size=b.length:=by refine' c_ vJ ?_;refine' aj E ?_;rfl
    rcases h with⟨rfl,i,rfl,h0,h1,q⟩|⟨rfl,c,rfl,h0,q⟩
    ·erw[ay (sq p),(z R g)];subst R;erw[bf g.inv,(t CW)];subst CW;erw[<-BA.Nq j h0 h1 (aj sizeLine_eq (fp [(av,aX),(aX,zn 100000)] (zs av,zn 16777216) rt (aa J) u)) λh' o D=>⟨_,_,.none,q,?_⟩,<-S.set (mo':=.c9 (b++[cM _])) e rfl (.inl rfl) D (λx=>by injection x) (kD.CS o ?_),aj Array.toList_push,aj E];rfl
    ·erw[ay (sq p),(z Ec g)];subst Ec;erw[df g.inv,(G t DJ U)];subst DJ;subst U;have hc:G.size<=100000:=by simpa using h0
     erw[<-BA.KH j (aj sizeLine_eq (gP [(av,aX),(aX,zn 100000),(bT,zn 100000)] (zp av bT,zn 16777216) rt (aa J) u hc)) λh' o D=>⟨_,_,.none,q,?_⟩,<-S.set (mo':=.c9 (b++G.toList)) e rfl (.inl rfl) D (λx=>by injection x) (kD.CS o ?_),aj Array.toList_append,aj E];rfl
   |inst C fs=>
    injection d with d;subst d
    erw[ay h];clear h;erw[(f hf h),aj (sH hf),<-QA O S (.cons (.ref a) p) h]
 |bytes b=>
  erw[df r.inv,(F t M j)];subst M;erw[cA h];clear h;intro e0 L h;subst L;subst e0;injection d with d;subst d
  rcases F with⟨bl⟩
  have j:=j;subst j;erw[f9 (YJ p h),(a z C_ Gv g h)];subst C_;subst Gv;have e:=g.inv;subst e;erw[ay (gh h),(P e GZ),fh GZ,(b j h1 h2 q),ay (eV S e),(I hl rr),ay (IS rr j),(bs WC y),<-bc (BA.IV hl WC (aj y (aj sizeLine_eq (dM h2 rfl))) λY k=>?_)];have:(bs.foldl (· ++ ·) #[]).toList=b:=by rewrite[BA.BF];refine' c_ y ?_;rfl
  erw[<-⟨_,H,.bytes _ Y,?_,S.tok k⟩,aj this,<-q]
 |_=>injection d
theorem SE.bp(O:cU sc N au A l ak n)(c:TabsOk T K)(j:m<18)(i:wN o=true)(p:es.length<20)(hl:(apos.endLine==pos.line)=true)(t:(starEach es au).any (·.1)=false)(h0:SE af w K T n N au A l ak os mo (eval o au))(h1:Ad af w K T n N au A l ak os ms (spliced (backTo pos (starEach es au)))):
  SE af w K T n N au A l ak os (.bp mo m ms) (eval (.Call (.Attribute o (Aa m) apos) es [] pos) au):=by
 erw[(ρ B H s Q X S h),<-CN t (QE i) p hl (i6 S (λy a=>h0 _ _ _ _ _ _ a h) λF s1 L=>bI λx r=>(cY · λC k b q e I G=>?_)),<-bc (LK c j e r k b ?_),<-i6 e (λy a=>h1 _ _ _ _ _ _ a q) λE s2 J=>(fh · λD v hl R f d u=>⟨LM c b d,?_⟩),<-p_mono (Wa O d (r.mono u) v R f) (λ_ _ z=>z.g) λ_ _ z=>z]
structure Nf(af:eE)(w:bY)(A:Around)(K:fq)(I:Addr)(qR:Hp->Prop)(St:List V->Heap->Prop):Prop where
 keep:∀{rest h h'},St rest h->(∀o,h.get? I=some o->h'.get? I=some o)->St rest h'
 self:∀{rest s} {Q:Value->Shared->Prop} {Ex},St rest s.heap->Q (.ref I) s->bP (model af w) A (pyIter (.ref I)) Q Ex s
 there:∀{rest h},St rest h->∃o,h.get? I=some o/\o.cls≠.type "tuple"
 item:∀{v rest H s} {Q:Option Value->Shared->Prop} {Ex},kC (rU K) H s.heap->qR H->St (v::rest) s.heap->
  (∀h' tk vv,cZ s.heap vv v->St rest h'->eo I s.heap h'->Q (some vv) {s with heap:=h',toks:=tk})->bP (model af w) A (pyNext (.ref I)) Q Ex s
 done:∀{H s} {Q:Option Value->Shared->Prop} {Ex},kC (rU K) H s.heap->qR H->St [] s.heap->(∀h',vF I s.heap h'->Q none {s with heap:=h'})->bP (model af w) A (pyNext (.ref I)) Q Ex s
theorem Nf.list(p:A.handled=none)(I a:Addr)(vs:List V):Nf af w A K I (λH=>H a=some (.list vs)) (λb h=>∃i,h.IsListIter I a i/\b=vs.drop i) where
 keep:=bI λi x e k=>⟨i,x.at k,e⟩
 self:=bI λi x e q=>wpAny_pyIter_listiter x q
 there:=bI λi=>(cY · λo m c _ e=>⟨o,m,by erw[aj c];decide⟩)
 item:=λ{v b H s Q Ex} R c=>bI λi x e q=>by
  erw[ay (R.obj a _ c),(y u r),aD u,(hl _)];have n:vs[i]?=some v:=by
   have:=congrArg List.head? e;rw[List.head?_cons,List.head?_drop] at this;exact this.symm
  erw[ay (r.get n),(g h1 h2),<-wpAny_pyNext_list_item x hl (by erw[aj (IJ),<-h1]) λt f l=>q t s.toks g h2 ⟨i+1,f,?_⟩ l];have:=congrArg List.tail e;rw[List.tail_cons,List.tail_drop] at this;exact this
 done:=λ{H s Q Ex} R c=>bI λi x e q=>by
  erw[ay (R.obj a _ c),(y j r),aD j,(hl _)];have d:=List.drop_eq_nil_iff.mp e.symm;exact wpAny_pyNext_list_end p x hl (by erw[aj (IJ),<-uf (aj r.length d)]) q
theorem Nf.range(f:A.handled=none)(I:Addr):Nf af w A K I (λ_=>True) (λa h=>∃(x:Int)(k:Nat),IsRangeIter h I x k 1/\a=gK x (x+k)) where
 keep:=(df · λx k r e c=>⟨x,k,c _ r,e⟩)
 self:=(df · λx k r e q=>wpAny_pyIter_rangeiter r q)
 there:=(df · λx k r e=>⟨_,r,λq=>absurd (y_ q) (dc rfl)⟩)
 item:=λ{v a H s Q Ex} R hc=>KN λx k r e q=>by
  unfold gK at e;rw[show(x+k-x).toNat=k by exact RS] at e
  induction k using Nat.casesOn with
  |zero=>injection e
  |succ k=>
   rw[tp,du] at e;injection e with e1 e2
   refine wpAny_pyNext_range_item r (aU.mpr (dK [] (zs (zn 0),zs av) rt)) λg b d=>q g _ (.int x s.toks) ?_ ⟨x+1,k,?_,?_⟩ d
   ·erw[aj e1];simpa using cZ.int x s.toks
   ·have:(k+1:Nat)-1=(k:Int):=by exact da (oE [(cN,ys dX)] (.sub cN (yn 1),dX) rt (aG (bh _ _))) (oE [(ys cN,dX)] (cN,.sub dX (yn 1)) rt (aG (ao (bh _ _))))
    rw[this] at b;exact b
   ·erw[aj e2];unfold gK;erw[aj (show(x+1+k-(x+1)).toNat=k by exact RS),aj eu,dR,(j _)];show V.int (x+((j+1:Nat):Int))=V.int (x+1+(j:Int))
    congr 1
    exact da (jY [(cN,ys dX)] (yp fY cN,yp (ys fY) dX) rt (aG (bh _ _))) (jY [(ys cN,dX)] (yp (ys fY) cN,yp fY dX) rt (aG (ao (bh _ _))))
 done:=λ{H s Q Ex} R hc=>KN λx k r e q=>by
  unfold gK at e;rw[show(x+k-x).toNat=k by exact RS] at e
  induction k using Nat.casesOn with
  |zero=>exact wpAny_pyNext_range_end f r (dc rfl) q
  |succ k=>rw[tp] at e;injection e
structure Off(N:dJ)(au:mA)(B:Heap)(ak:List (Addr×Obj))(a:Addr):Prop where
 out:∀p∈ak,p.1≠a
 own:¬Own N au a
 nU:B.get? a=none
theorem Sat.raised(S:Sat K N au ρ B ak os H s)(F:Off N au B ak a)(f:¬FP H s.heap a)(b:s.heap.get? a=some o):(top N au ak H s.heap).get? a=some o:=
 (jy _ _ _ _).mpr ⟨λx=>by
  rcases x with x|x|⟨p,h,e⟩
  ·exact f x
  ·exact F.own x
  ·exact F.out p h e,b⟩
theorem Sat.wt(S:Sat K N au ρ B ak os H s)(b:B.get? a=some o):¬FP H s.heap a:=λx=>by rw[S.h.nU a x] at b;injection b
theorem Sat.Q4(S:Sat K N au ρ B ak os H s)(F:Off N au B ak a)(f:¬FP H s.heap a)(j:∀i,¬q0 s.heap a i)(k:vF a s.heap s'.heap)(r:s'.gens=#[])(m:s'.os=os):
  Sat K N au ρ B ak os H s'/\dN s.heap s'.heap:=by
 have c:ju (· =a) s.heap s'.heap:=λb o n e _=>⟨o.slots,k b o n e⟩;have h2:∀x i,q0 s.heap x i->¬x=a:=λx i d e=>by replace e:=e.symm;subst e;exact j _ d
 exact⟨S.keep c (λb o e=>k b o (λq=>by replace q:=q.symm;subst q;rw[F.nU] at e;injection e) (S.h.stays b o e)) (λx g e=>by replace e:=e.symm;subst e;exact f g) h2 (λp l e=>F.out p l e) (λx o e=>by replace e:=e.symm;subst e;exact F.own o) r m,c.tup h2⟩
theorem Sat.tH(S:Sat K N au ρ B ak os H s)(F:Off N au B ak a)(f:¬FP H s.heap a){s':Shared}(k:vF a s.heap s'.heap)(fb:¬FP H s.heap b):¬FP H s'.heap b:=λx=>by
 have c:ju (· =a) s.heap s'.heap:=λb o n e _=>⟨o.slots,k b o n e⟩;exact fb ((S.h.rel.qj c (λx g e=>by replace e:=e.symm;subst e;exact f g) b).mp x)
theorem Sat.adopt(S:Sat K N au ρ B ak os H s)(F:Off N au B ak a)(f:¬FP H s.heap a)(hl:si s.heap a aQ.toArray)(r:bU s.heap aQ vs):H a=none/\Sat K N au ρ B ak os (upd H a (.list vs)) s:=by
 have d:∀i,¬q0 s.heap a i:=λi=>Cc λo c g _=>by
  erw[gR hl,(n sl e)];rw[e] at c;injection c with c;subst c;exact absurd (y_ g) (dc rfl)
 have k:vF a s.heap (qz (· =a) s.heap):=λb o n e=>(jy _ _ _ _).mpr ⟨n,e⟩;erw[aD (S.Q4 (s':={s with heap:=qz (· =a) s.heap}) F f d k S.h.gens S.h.os),(j _),<-⟨?_,j.new (oa _ _) (mT rfl) rfl (hl.CS r) S.h.gens S.h.os⟩];cases e:H a with
 |none=>rfl
 |some m=>exact absurd (.inl (by erw[aj e];simp)) f
open PySem.MeetsSeq in
theorem Gj{b:List Value}(hl:si s.heap a b.toArray)(c:b.length<=100000)(q:Q .none {s with heap:=s.heap.update a (mj λx=>x.push vv)}):
  bP (model af w) A (call (.builtin "list.append") [.ref a,vv]) Q Ex s:=by
 erw[gR (id hl),(n sl h),<-wpAny_call_entry slot_list_append hl.isList.typeIs entry_list_append ?_ (args_list_append _ _)];show bP _ _ (updateSeq a (·.push vv) >>= λ_=>ret .none) _ _ s;exact wpAny_bind (wpAny_updateSeq h rfl (wpAny_pure ⟨.none,rfl,q⟩))
theorem Sat.HT(G:Sat K N au ρ B ak os H s)(k:B.StaysIn B')(a:∀x i,(x,Kd.ro,i)∈N->eA i=ρ i)(S:Sat K N au eA B' ak os H' s'):Sat K N au eA B ak os H' s':=
 ⟨S.h.down G.h.st k,S.f.down k λx i m v e=>G.f.ro x i m v ((a x i m).symm.trans e)⟩
theorem Ut(O:O4 N sc)(m:(x,k,i)∈N)(h:k≠.ro):∀y j,(y,Kd.ro,j)∈N->upd ρ i v j=ρ j:=λy j a=>by
 erw[dr _ _,(e)];subst e;have e:=O.inj _ _ _ _ _ a m;subst e;exact h (O.fn _ _ _ _ _ m a).1
theorem bR(f:Nat->Option α)(a:Nat)(x y:α):upd (upd f a x) a y=upd f a y:=by
 funext b;unfold upd;split<;>rfl
theorem Jh{St:List V->Heap->Prop}(O:cU sc N au A l ak n)(hx:N.lookup x=some (.loc,1000))(F:Nf af w A K I qR St)(G:Off N au B ak I)(FD:Off N au B ak D)(WJ:I≠D)(He:∀v B H s Q,Sat K N au (upd ρ 1000 v) B ak os H s->F0 v H Q->bO (model af w) A (eval elt au) (PG K N au (upd ρ 1000 v) B ak os (QV Q)) (λ_ _=>False) s)(Hc:∀v B H s Q,Sat K N au (upd ρ 1000 v) B ak os H s->AJ v H Q->bO (model af w) A (forIn ifs true λc r=>if r=true then do let ok<-isTrue c au (eval c au);pure (cw ok) else pure (cw r)) (PG K N au (upd ρ 1000 v) B ak os (QB Q)) (λ_ _=>False) s)(hR:∀s' m W ys j,Sat K N au W B ak os m s'->si s'.heap D ys.toArray->bU s'.heap ys j->¬FP m s'.heap D->Qf j m->R (.ok .next) s')(S:Sat K N au ρ B ak os H s)(st:St d s.heap)(E:¬FP H s.heap I)(fD:¬FP H s.heap D)(hD:si s.heap D #[])(J:d.length<=1000)(T:qR H)(h:j8 F0 AJ qR d [] H Qf):
  dV (model af w) A (.compLoop (.ListComp elt [⟨.Name x px,iter,ifs,0⟩] scope pos) 0 (.ref I) (.ref D) au) R s:=by
 refine Ep (λk s'=>∃d j ys m W,k=d.length/\(∀u,upd W 1000 u=upd ρ 1000 u)/\Sat K N au W B ak os m s'/\St d s'.heap/\¬FP m s'.heap I/\¬FP m s'.heap D/\si s'.heap D ys.toArray/\bU s'.heap ys j/\
  ys.length+d.length<=1000/\qR m/\j8 F0 AJ qR d j m Qf) ?_ d.length ⟨d,[],[],H,ρ,rfl,λ_=>rfl,S,st,E,fD,hD,.nil,by simpa using J,T,h⟩
 erw[(k s lj),OR lj];clear lj;intro d j ys H W pE hu S st E fD hD ry J T h;subst pE;have nI:∀i,¬q0 s.heap I i:=λi=>Cc λo f hc _=>by
  erw[ay (F.there st),(o' wb hc')];rw[f] at wb;injection wb with wb;subst wb;exact hc' hc
 induction d using lcs with
 |nil=>
  erw[<-bc (F.done S.h.rel T st λC k=>?_),aD (S.Q4 (s':={s with heap:=C}) G E nI k S.h.gens S.h.os),(S' T'),gR hD,(n sl f),<-hR _ H W ys j S' ⟨n,sl,k _ _ (aJ WJ) f⟩ (ry.mono T') (S.tH G E k fD) h]
 |cons v d=>
  refine bc (F.item S.h.rel T st λC tk vv rv Om k=>?_);have kx:=k.extBut;erw[aD (S.Q4 (s':={s with heap:=C,toks:=tk}) G E nI kx S.h.gens S.h.os),(P T1)];have VX:=S.tH (s':={s with heap:=C,toks:=tk}) G E kx E;have fD1:=S.tH (s':={s with heap:=C,toks:=tk}) G E kx fD;have hD1:si C D ys.toArray:=let⟨n,sl,f⟩:=hD;⟨n,sl,kx _ _ (aJ WJ) f⟩;erw[ay (F.there Om),(oI Hl _)];have ry1:=ry.mono T1;have XT:=rv.mono T1;generalize P_:({s with heap:=C,toks:=tk})=s1 at P VX fD1 XT⊢;have Vl:C=s1.heap:=by refine' c_ P_ ?_;rfl
  rw[Vl] at Om hD1 Hl ry1;clear P_ Vl rv;erw[gR (id hD1),(nD slD hoD),cA (O.ofName hx),(mx _ _)];have e1:=hu v;refine bc (wpAny_assign_Name (xX O P.raise hx (λh=>by injection h) XT λs2 EP=>?_));have t:=P.raised G VX Hl;have p:=P.raised FD fD1 hoD;have Fs:=EP.h.stays _ _ t;have abO:=EP.h.stays _ _ p;have fI2:=EP.wt t;have fD2:=EP.wt p;have XM:=F.keep Om λo e=>by rw[Hl] at e;injection e with e;subst e;exact Fs
  have ry2:=ry1.mono λa i it=>dN.of_stays EP.h.stays _ _ (P.wy _ _ it);have M:=P.HT P.stays (Ut O.JZ mx (λh=>by injection h)) EP;rw[e1] at M;refine p_mono (Hc v _ H s2 _ M.raise h) (λb s3=>bI λH3 q Y=>?_) λ_ _ z=>z;have t:=M.raised G fI2 Fs;have p:=M.raised FD fD2 abO;have MZ:=Y.h.stays _ _ t;have XR:=Y.h.stays _ _ p;have fI3:=Y.wt t;have fD3:=Y.wt p;have st3:=F.keep XM λo e=>by rw[Fs] at e;injection e with e;subst e;exact MZ
  have ry3:=ry2.mono λa i it=>dN.of_stays Y.h.stays _ _ (M.wy _ _ it);have L:=M.down M.stays Y;unfold QB at q;have hul:∀u,upd (upd ρ 1000 v) 1000 u=upd ρ 1000 u:=λu=>bR _ _ _ _
  induction b using tW with
  |false=>
   exact⟨_,gZ _,d,j,ys,H3,_,rfl,hul,L,st3,fI3,fD3,⟨nD,slD,XR⟩,ry3,by simp only[aV] at J;exact fp [(zp av (zs aX),zn 1000)] (zp av aX,zn 1000) rt J,q.1,q.2⟩
  |true=>
   simp only[if_true] at q⊢;refine p_mono (He v _ H3 s3 _ L.raise q) (λy U=>bI λH4=>(cY · λxv rx T q X=>?_)) λ_ _ z=>z;have t:=L.raised G fI3 MZ;have p:=L.raised FD fD3 XR;have aaj:=X.h.stays _ _ t;have YE:=X.h.stays _ _ p;have fI4:=X.wt t;have g:=X.wt p;have st4:=F.keep st3 λo e=>by rw[MZ] at e;injection e with e;subst e;exact aaj
   have ry4:=ry3.mono λa i it=>dN.of_stays X.h.stays _ _ (L.wy _ _ it);have S4:=L.down L.stays X;have hD4:si U.heap D ys.toArray:=⟨nD,slD,YE⟩;have nD':∀i,¬q0 U.heap D i:=λi=>(cY · λo f hc _=>by rw[YE] at f;injection f with f;subst f;exact absurd (y_ hc) (dc rfl));simp only[aV] at J;refine bc (Gj hD4 (fp [(zp av aX,zn 1000)] (av,zn 100000) rt J) ?_);have k:vF D U.heap (U.heap.update D (mj λx=>x.push y)):=(iI ..).extBut;erw[aD (S4.Q4 (s':={U with heap:=U.heap.update D (mj λx=>x.push y)}) FD g nD' k S4.h.gens S4.h.os),(S5 T5)];refine⟨_,gZ _,d,j++[xv],ys++[y],H4,_,rfl,hul,S5,F.keep st4 λo e=>k _ _ WJ e,S4.tH FD g k fI4,
    S4.tH FD g k g,?_,(ry4.append (.cons rx .nil)).mono T5,by simp only[ah,aV,Bx];exact fp [(zp av (zs aX),zn 1000)] (zp (zp av (zs (zn 0))) aX,zn 1000) rt J,T,q⟩
   have:=hD4.update λx=>x.push y
   simpa using this
theorem mF{N:dJ}:∀{n:List (Str×dA)} {y:Str} {k:Kd} {j:Nat},(y,k,j)∈dk N n->(k=.loc/\j=1000/\(y,NameKind.local)∈n)\/(k=.ro/\(y,eI)∈n/\∃d,N.lookup y=some (d,j))
 |[],y,k,j,h=>absurd h AY
 |(x,kd)::r,y,k,j,h=>by
  have up:(y,k,j)∈dk N r->(k=.loc/\j=1000/\(y,NameKind.local)∈(x,kd)::r)\/(k=.ro/\(y,eI)∈(x,kd)::r/\∃d,N.lookup y=some (d,j)):=λh=>by
   rcases mF h with⟨a,b,c⟩|⟨a,b,c⟩
   ·exact .inl ⟨a,b,fV c⟩
   ·exact .inr ⟨a,fV b,c⟩
  induction kd using NameKind.casesOn
  ·replace h:(y,k,j)∈(if x==(".0") then dk N r else(x,.loc,1000)::dk N r):=h
   by_cases e:(x==(".0"))=true
   ·rw[if_pos e] at h;exact up h
   ·rw[if_neg e] at h;refine(bE.mp h).elim (λh=>?_) up;injection h with h1 h2;injection h2 with h2 h3
    replace h1:=h1.symm;subst h1;subst h2;subst h3;exact .inl ⟨rfl,rfl,kf⟩
  ·exact up h
  ·replace h:(y,k,j)∈(match N.lookup x with|some (_,i)=>(x,Kd.ro,i)::dk N r|none=>dk N r):=h;cases hl:N.lookup x with
   |none=>rw[hl] at h;exact up h
   |some p=>
    rw[hl] at h;refine(bE.mp h).elim (λh=>?_) up;injection h with h1 h2;injection h2 with h2 h3
    replace h1:=h1.symm;subst h1;subst h2;subst h3;exact .inr ⟨rfl,kf,p.1,hl⟩
  ·exact up h
  ·exact up h
theorem vW{N:dJ}(c:(x !=(".0":Str))=true):∀{n:List (Str×dA)},n.lookup x=some .local->(dk N n).lookup x=some (.loc,1000)
 |[],h=>by injection h
 |(y,k)::r,h=>by
  rw[dB] at h;have b:(x==(".0"))=false:=by simpa[bne] using c
  cases e:x==y with
  |true=>
   rw[e] at h;injection h with h;subst h
   have:=beq_iff_eq.mp e;subst this;show(if(x==(".0":Str))=true then dk N r else(x,Kd.loc,1000)::dk N r).lookup x=_;rw[b,if_neg h_,dB,beq_self_eq_true]
  |false=>
   rw[e] at h;have a:=vW c (N:=N) h
   induction k using NameKind.casesOn
   ·show(if y==(".0") then dk N r else(y,.loc,1000)::dk N r).lookup x=_
    by_cases d:(y==(".0"))=true
    ·rw[if_pos d];exact a
    ·rw[if_neg d];erw[aj dB,aj e,<-a]
   ·exact a
   ·show(match N.lookup y with|some (_,i)=>(y,Kd.ro,i)::dk N r|none=>dk N r).lookup x=_
    induction N.lookup y using tU
    ·exact a
    ·erw[aj dB,aj e,<-a]
   ·exact a
   ·exact a
structure Hj(N:dJ)(x:Str)(names:List (Str×dA)):Prop where
 free:∀y,(y,eI)∈names->∃j,N.lookup y=some (.cell,j)
 Vs:∀y∈names,y.2≠.cell
 loc:∀y∈names,y.2=.local->names.lookup y.1=some .local
 x:(dk N names).lookup x=some (.loc,1000)
 JZ:O4 (dk N names) (nj names)
theorem Hj.of{N:dJ}{x:Str}(h:Nx N x names=true)(h2:DW (dk N names) (nj names)=true):Hj N x names:=by
 erw[aD (ag.mp h),(g d),aD (ag.mp g),(i c),aD (ag.mp i),(a b)];have a:=cJ.mp a;have c:=cJ.mp c;refine⟨λy f=>?_,λy f e=>?_,λy f e=>?_,vW d (beq_iff_eq.mp b),O4.of h2⟩
 ·have:=a _ f;replace this:(match N.lookup y with|some (.cell,_)=>true|_=>false)=true:=this;generalize N.lookup y=o at this⊢
  induction o using tU with
  |none=>injection this
  |some o=>
   induction o using Prod.casesOn with
   |mk k j=>induction k using Kd.casesOn<;>first|exact⟨j,rfl⟩|(injection this)
 ·have:=a _ f;rw[e] at this;injection this
 ·have:=c _ f;rw[e] at this
  simpa using this
theorem pV{au:mA}:∀(n:List (Str×dA)) (i:List (Str×Addr)),(∀y,(y,eI)∈n->∃a,au.cells.lookup y=some a)->(∀p∈i,au.cells.lookup p.1=some p.2)->
  ∃cl,(forIn n i λ(p:Str×dA) (f:List (Str×Addr))=>(if(p.2==eI)=true then(do let a<-cellOf au p.1;pure (cw ((p.1,a)::f))) else pure (cw f):Sem (ForInStep (List (Str×Addr)))))=pure cl/\
   (∀p∈cl,au.cells.lookup p.1=some p.2)/\(∀y,((y,eI)∈n\/∃a,(y,a)∈i)->∃a,(y,a)∈cl)
 |[],i,_,h2=>⟨i,rfl,h2,λy h=>by rcases h with h|h;cases h;exact h⟩
 |(x,k)::r,i,h1,h2=>by
  by_cases d:k=.free
  ·subst d;erw[bf (h1 x kf),(a e)];refine cY (pV r ((x,a)::i) (λy c=>h1 y (fV c)) (λp hp=>by
    rcases bE.mp hp with rfl|hp
    ·exact e
    ·exact h2 p hp)) ?_
   erw[(cl e1 e2 e3),<-⟨cl,?_,e2,λy h=>e3 y ?_⟩]
   ·rw[Bt];have:cellOf au x=pure a:=by unfold cellOf;refine' aj e ?_;rfl
    dsimp only;erw[aj this,<-e1]
   ·rcases h with h|⟨b,h⟩
    ·rcases bE.mp h with h|h
     ·injection h with h1 h2;replace h1:=h1.symm;subst h1;exact .inr ⟨a,kf⟩
     ·exact .inl h
    ·exact .inr ⟨b,fV h⟩
  ·erw[cY (pV r i (λy c=>h1 y (fV c)) h2),(cl e1 e2 e3),<-⟨cl,?_,e2,λy h=>e3 y ?_⟩]
   ·rw[Bt];have:(k==eI)=false:=by simpa using d
    dsimp only;erw[aj this,<-e1]
   ·rcases h with h|h
    ·rcases bE.mp h with h|h
     ·injection h with h1 h2;exact absurd h2.symm d
     ·exact .inl h
    ·exact .inr h
theorem F6(h:∀y,(y,eI)∈scope.names->∃a,au.cells.lookup y=some a):
  ∃cl,closureFor scope au=pure cl/\∀y,(y,eI)∈scope.names->cl.lookup y=au.cells.lookup y:=by
 erw[cY (pV scope.names [] h (λ_ h=>by cases h)),(cl e1 e2 e3),<-⟨cl,?_,λy g=>?_⟩]
 ·unfold closureFor;have:(forIn scope.names [] λp d=>(if(p.2==eI)=true then(do let a<-cellOf au p.1;pure (cw ((p.1,a)::d))) else pure (cw d))) >>= (λd=>pure d)=(pure cl:Sem _):=by refine' aj e1 ?_;rfl
  exact this
 ·erw[bf (e3 y (.inl g)),(a j)];have:∀(l:List (Str×Addr)),(y,a)∈l->∃b,l.lookup y=some b:=λl=>by
   induction l with
   |nil=>intro h;cases h
   |cons p r i=>
    intro h;rcases p with⟨z,c⟩
    erw[aj dB];cases e:y==z with
    |true=>exact⟨c,rfl⟩
    |false=>
     rcases bE.mp h with h|h
     ·injection h with h1 h2;subst h1;simp at e
     ·exact i h
  erw[bf (this cl j),(b f),aj f,<-(e2 _ (mem_of_lookup f)).symm]
theorem Bb(O:cU sc N au A l ak n)(C:Hj N x scope.names):(relabel scope au).names=nj scope.names:=by
 unfold relabel nj;erw[dR,(y a)];rcases y with⟨z,k⟩
 dsimp only
 by_cases h:k=.free
 ·subst h;erw[bf (C.free z a),(j b)];have:=(O.ofName b).2.1;erw[aj this,aj O.kind];rfl
 ·have:(k==eI)=false:=by simpa using h
  erw[aj this];rfl
theorem IX{scope:Scope}{x:Str}{cl:List (Str×Addr)}{C:Addr}{o:Obj}(O:cU sc N au A l ak n)(f:scope.kind=.function)(d:Hj N x scope.names):
  cU (nj scope.names) (dk N scope.names) (compEnvC scope cl C au) A l ((au.locals,o)::ak) n where
 kind:=f
 names:=Bb O d
 JZ:=d.JZ
 glob:=O.glob
 blt:=O.blt
 ar:=O.ar
 fr:=O.fr
 ne:=O.ne
 frs:=λe g=>by
  erw[aD (O.frs e g),(a i),ay i,(L b c),<-⟨a,L,b,.inr ?_⟩];rcases c with rfl|⟨p,h,e⟩
  ·exact⟨_,kf,rfl⟩
  ·exact⟨p,fV h,e⟩
noncomputable def Vu(ρ:Loc):Loc:=λi=>if i=1000 then none else ρ i
theorem Ic(ρ:Loc)(v:V):upd (Vu ρ) 1000 v=upd ρ 1000 v:=by
 funext i;unfold upd Vu;split<;>rfl
theorem Bz{St:List V->Heap->Prop}{RR:Value->Addr->Dy->Shared->Prop}(O:cU sc N au A l ak n)(hk:scope.kind=.function)(CO:Hj N x scope.names)(J0:∀y,(y,eI)∈scope.names->cl.lookup y=au.cells.lookup y)(S:Sat K N au ρ B ak os H s)(k:∀b o,s.heap.get? b=some o->cc.heap.get? b=some o)(hg:cc.gens=#[])(E9:cc.os=os)(hI:s.heap.get? I=none)(IT:Nf af w A K I qR St)(st:St rest cc.heap)(hz:rest.length<=1000)(xm:qR H)(h:j8 F0 AJ qR rest [] H Qf)(He:∀d U,cU (nj scope.names) (dk N scope.names) d A l U n->∀v B H s Q,Sat K (dk N scope.names) d (upd ρ 1000 v) B U os H s->F0 v H Q->
   bO (model af w) A (eval elt d) (PG K (dk N scope.names) d (upd ρ 1000 v) B U os (QV Q)) (λ_ _=>False) s)(Hc:∀d U,cU (nj scope.names) (dk N scope.names) d A l U n->∀v B H s Q,Sat K (dk N scope.names) d (upd ρ 1000 v) B U os H s->AJ v H Q->
   bO (model af w) A (forIn ifs true λc r=>if r=true then do let ok<-isTrue c d (eval c d);pure (cw ok) else pure (cw r)) (PG K (dk N scope.names) d (upd ρ 1000 v) B U os (QB Q)) (λ_ _=>False) s)(hRR:∀D C m s' Y L,Y D=none->Qf L Y->Sat K N au ρ B ak os (upd Y D (.list L)) s'->dN s.heap s'.heap->s'.heap.Ns C m->Off N au B ak C->¬FP (upd Y D (.list L)) s'.heap C->RR (.ref D) C (.ok .next) s'):
  bO (model af w) A (newList []) (λL W=>bO (model af w) A (newFunctionEnv scope au.globals cl [] au.qual none .none (some au)) (λd vw=>
   dV (model af w) A (.compStart (.ListComp elt [⟨.Name x px,iter,ifs,0⟩] scope pos) 0 (.ref I) L {d with scope:=relabel scope au}) (RR L d.locals) vw) Ex W) Ex cc:=by
 refine bc (wpAny_newObj_type (bc (wpAny_newFunctionEnv CO.Vs (by intro y X;simp at X) (λcu Di Co=>?_) hk)));dsimp only at Di Co⊢;generalize U7:cc.heap.push {cls:=.type "list",dict:=none,data:=.seq ([]).toArray}=H2 at Di Co⊢;erw[ay (IT.there st),(oI Hl hIt)];have hC:H2.objs.size=cc.heap.objs.size+1:=by refine' c_ U7 ?_;rw[Heap.size_push]
 have R:cc.heap.objs.size≠H2.objs.size:=by refine' aj hC ?_;exact zz (gZ _)
 have Gf:∀b,b<cc.heap.objs.size->b≠H2.objs.size/\b≠cc.heap.objs.size:=λb hb=>⟨by erw[aj hC,<-zz (Nat.lt_succ_of_lt hb)],zz hb⟩;have E:∀b o,cc.heap.get? b=some o->cu.get? b=some o:=λb o e=>Co.extBut b o (Gf b (eQ e)).1 (bB _ (U7▸bB _ e));have k1:∀b o,s.heap.get? b=some o->cu.get? b=some o:=λb o e=>E b o (k b o e);have Y5:=Co.extBut _ _ R (bB _ (U7▸dw _ rfl));have D0:∀a,cc.heap.objs.size<=a->s.heap.get? a=none:=λa t=>by
  cases e:s.heap.get? a with
  |none=>rfl
  |some o'=>exact absurd (eQ (k a o' e)) (tP.mpr t)
 have T:=D0 cc.heap.objs.size qQ;have YM:=D0 H2.objs.size (aj hC (mJ _));have WJ:=(Gf I (eQ Hl)).2;have hIC:=(Gf I (eQ Hl)).1;generalize cc.heap.objs.size=D at*;generalize H2.objs.size=C at*;have M:∀a,s.heap.get? a=none->Off N au B ak a/\¬FP H s.heap a/\a≠au.locals:=λa t=>by
  have hL:a≠au.locals:=λe=>by
   subst e;erw[ay S.f.ns,(_ iP _),xH iP,(o _ _ g _)];rw[t] at g;injection g
  refine⟨⟨λp hp e=>?_,λo=>?_,dG S.h.stays t⟩,λf=>?_,hL⟩
  ·subst e;erw[dY (S.h.ak p hp),(_ _ _ lj),bf lj,(sl g)];rw[t] at g;injection g
  ·rcases o with o|⟨y,i,m,e⟩
   ·exact hL o
   ·erw[C8 (S.f.cell y i m),(c' o e' _ _ _ _ g _)];rw[e] at e';injection e' with e';subst e';rw[t] at g;injection g
  ·erw[ay (S.h.rel.own f),(o g _)];rw[t] at g;injection g
 erw[fh S.Dg,(oL SH st0 T0 hoL)];have Qg:∀a,s.heap.get? a=none->a≠C->Off (dk N scope.names) (compEnvC scope cl C au) (below au ak H s.heap) ((au.locals,oL)::ak) a:=λa t rL=>by
  erw[cA (M a t),(F f hL),<-⟨λp hp=>?_,λo=>?_,dG (oa _ _) t⟩]
  ·rcases bE.mp hp with rfl|hp
   ·exact aJ hL
   ·exact F.out p hp
  ·rcases o with o|⟨y,i,m,e⟩
   ·exact rL o
   ·rcases mF m with⟨h,_⟩|⟨h,_⟩<;>cases h
 generalize G:({cc with heap:=cu,toks:=cc.toks+([]:List (Str×Value)).length})=W;have hh3:W.heap=cu:=by refine' c_ G ?_;rfl
 have YZ:W.gens=#[]:=by refine' c_ G ?_;exact hg
 have ho3:W.os=os:=by refine' c_ G ?_;exact E9
 clear G;rw[<-hh3] at k1 Y5 E Di;have SH3:=SH.grow k1 YZ ho3;have Of:=S.h.rel.qj (ju.of_keeps k1) (λ_ _=>id);have S3:Sat K (dk N scope.names) (compEnvC scope cl C au) (Vu ρ) (below au ak H s.heap) ((au.locals,oL)::ak) os H W:=by
  refine⟨SH3,⟨⟨_,Di,λy kd j m Y8 v P=>?_⟩,dG (oa _ _) YM,λf=>(M C YM).2.1 ((Of _).mp f),λp hp=>?_,λy j m=>?_,λy z i j c m=>?_,λy j m v P=>?_⟩⟩
  ·rcases mF m with⟨_,rfl,_⟩|⟨e,_⟩
   ·unfold Vu at P;injection P
   ·rw[Y8] at e;injection e
  ·rcases bE.mp hp with rfl|hp
   ·exact aJ (M C YM).2.2
   ·exact(M C YM).1.out p hp
  ·rcases mF m with⟨e,_⟩|⟨e,_⟩<;>cases e
  ·rcases mF m with⟨e,_⟩|⟨e,_⟩<;>cases e
  ·rcases mF m with⟨e,_⟩|⟨_,hf,k',hl⟩
   ·injection e
   ·erw[bf (CO.free y hf),(j' J)];rw[hl] at J;injection J with J;injection J with e1 e2
    subst e1;subst e2;erw[iB (S.f.cell y j (mem_of_lookup hl)),(c oc a1 a2 a3 a4 pE),cA pE,(a5 a6 ua),ay ua];intro v? a8 a9;have hv':ρ j=some v:=by
     unfold Vu at P;split at P
     ·injection P
     ·exact P
    erw[ay (a9 v hv'),(val xp rv)];subst xp;refine⟨c,val,(J0 y hf).trans a1,⟨oc,(jy _ _ _ _).mpr ⟨λq=>?_,a6⟩,a8⟩,rv.mono T0⟩;rcases q with f|f|⟨p,hp,e⟩
    ·exact a4 f
    ·exact a2 f
    ·exact a5 p hp e
 have EO:cU (nj scope.names) (dk N scope.names) (compEnvC scope cl C au) A l ((au.locals,oL)::ak) n:=IX O hk CO;erw[CR (λ{Ex Q} q=>IT.self (IT.keep st λo e=>E I o e) q)];refine Jh EO CO.x IT (Qg I hI hIC) (Qg D T R) WJ
  (λv B H s Q u q=>by rw[Ic] at u⊢;exact He _ _ EO v B H s Q u q) (λv B H s Q u q=>by rw[Ic] at u⊢;exact Hc _ _ EO v B H s Q u q)
  (λs' Y eA ys L u hl r fD q=>?_) S3 (IT.keep st λo e=>E I o e) (λf=>(M I hI).2.1 ((Of _).mp f)) (λf=>(M D T).2.1 ((Of _).mp f)) ⟨0,#[],Y5⟩ hz xm h
 erw[bf u.f.ns,(mC hnC),aD (S.rT hoL u.h),(S4 T4),aD (S4.adopt (M D T).1 fD hl r),(hDn S5),hRR D C mC s' Y L hDn q S5 T4 hnC.1 (M C YM).1,(f)];have hi:ey (some (MO.list L))=false:=rfl;rcases f with f|⟨y,X,hd⟩
 ·by_cases e:C=D
  ·exact R e.symm
  ·rw[dr _ _ e] at f;exact u.f.off (.inl f)
 ·by_cases e:y=D
  ·replace e:=e.symm;subst e;rw[cX] at X;injection X
  ·rw[dr _ _ e] at X;exact u.f.off (.inr ⟨y,X,hd⟩)
theorem wk:∀x,gG (jb m y) au x=pure x:=λx=>by
 have h:=tF m y;generalize jb m y=e at h
 induction e using Expr.casesOn with
 |Set a b c=>exact Bool.noConfusion h
 |_=>rfl
theorem Q7(O:cU sc N au A l ak n)(J:scope.kind=.function)(G:Hj N x scope.names)(T:∀x,gG iter au x=pure x)(S:Sat K N au ρ B ak os H s)(P:∀d i,cU (nj scope.names) (dk N scope.names) d A l i n->∀v B H s Q,Sat K (dk N scope.names) d (upd ρ 1000 v) B i os H s->F0 v H Q->
   bO (model af w) A (eval elt d) (PG K (dk N scope.names) d (upd ρ 1000 v) B i os (QV Q)) (λ_ _=>False) s)(R:∀d i,cU (nj scope.names) (dk N scope.names) d A l i n->∀v B H s Q,Sat K (dk N scope.names) d (upd ρ 1000 v) B i os H s->AJ v H Q->
   bO (model af w) A (forIn ifs true λc r=>if r=true then do let ok<-isTrue c d (eval c d);pure (cw ok) else pure (cw r)) (PG K (dk N scope.names) d (upd ρ 1000 v) B i os (QB Q)) (λ_ _=>False) s)(h1:bO (model af w) A (eval iter au) (λv s1=>∃E,Sat K N au ρ B ak os E s1/\
   ((∃a vs,v=.ref a/\E a=some (.list vs)/\vs.length<=1000/\j8 F0 AJ (λW=>W a=some (.list vs)) vs [] E Qf)\/
    (∃r t u t' g,v=.ref r/\IsRange s1.heap r 0 g 1 t u t'/\0<=g/\g<=1000/\j8 F0 AJ (λ_=>True) (gK 0 g) [] E Qf))/\
    ∀D C m s' F L,F D=none->Qf L F->Sat K N au ρ B ak os (upd F D (.list L)) s'->dN s1.heap s'.heap->s'.heap.Ns C m->Off N au B ak C->¬FP (upd F D (.list L)) s'.heap C->BX (model af w) A Ex use Q' (.ref D) C (.ok .next) s') Ex s):
  bO (model af w) A (comprehension (.ListComp elt [⟨.Name x px,iter,ifs,0⟩] scope pos) scope au p2 (newList []) false (eval iter au) use) Q' Ex s:=by
 refine ay (F6 λy U=>by
  erw[bf (G.free y U),(j V),df (S.f.cell y j (mem_of_lookup V)),(c o X _)];exact⟨c,X⟩) ?_
 erw[(cl Y M),<-SP rfl T Y J G.loc (p_mono h1 (λv s1=>(cY · λE k q p=>?_)) λ_ _ z=>z)];rcases q with⟨a,vs,rfl,ha,hz,q⟩|⟨r,t,u,t',g,rfl,hr,h0,hz,q⟩
 ·erw[ay (eV k ha),(aQ hl _),<-bc (wpAny_pyIter_list hl ?_)];exact Bz O J G M k (λb o e=>bB _ e) k.h.gens k.h.os (none_at_size _)
   (Nf.list O.ar.handled _ a vs) ⟨0,⟨_,dw _ rfl,rfl,rfl⟩,rfl⟩ hz ha q P R p
 ·have I:Builtin.Range.small 0 g 1=true:=small_one (dc rfl) (dc rfl) (S_ h0) (T8 hz);have Fc:nO 0 g 1=g.toNat:=by rw[rangeSize_one];split<;>lia
  refine bc (wpAny_pyIter_range hr I ?_);refine Bz O J G M k (λb o e=>bB _ e) k.h.gens k.h.os (none_at_size _)
   (Nf.range O.ar.handled _) ⟨0,g.toNat,?_,?_⟩ ?_ trivial q P R p
  ·erw[aj Fc,<-dw _ rfl]
  ·congr 1;exact da (oE [(cN,dX)] (cN,yp (yn 0) dX) rt (iN _)) (oE [(cN,dX)] (yp (yn 0) cN,dX) rt (aG (gT (oZ [(yn 0,cN)] (yn 0,cN) rt h0))))
  ·unfold gK;simp;assumption
theorem AG{Qf:List V->Hp->Prop}(j:∀H a,Qf a H->∀c,H c=none->Q (.ref c) (upd H c (.list a)))(n:H D=none)(q:Qf a H)(S:Sat K N au ρ B ak os (upd H D (.list a)) s')(e:s'.heap.Ns C m)(F:Off N au B ak C)(f:¬FP (upd H D (.list a)) s'.heap C):
  BX M A Ex none (PG K N au ρ B ak os (QV Q)) (.ref D) C (.ok .next) s':=by
 refine⟨m,e,λp g=>?_⟩;refine aD (S.Q4 (s':={s' with heap:=p}) F f (λi=>Cc λo l t d=>d.elim λk d=>by
  erw[iD e,(s u v w b _)];rw[l] at w;injection w with w;subst w;rw[d] at b;injection b) g.extBut S.h.gens S.h.os) ?_
 erw[(r _),<-⟨_,⟨_,.ref D,j H a q D n⟩,r⟩]
theorem vA{Qf:List V->Hp->Prop}{Q:Loc->Hp->Prop}(O:cU sc N au A l ak n)(j:N.lookup y=some (.loc,i))(w:∀H b,Qf b H->∀c,H c=none->Q (upd ρ i (.ref c)) (upd H c (.list b)))(z:H D=none)(q:Qf b H)(S:Sat K N au ρ B ak os (upd H D (.list b)) s')(x:s'.heap.Ns C m)(F:Off N au B ak C)(f:¬FP (upd H D (.list b)) s'.heap C):
  BX M A Ex (some (assign (.Name y py) au)) (λ_ R=>∃p r,Q p r/\Sat K N au p B ak os r R) (.ref D) C (.ok .next) s':=by
 erw[cA (O.ofName j),(u _ _),<-bc (wpAny_assign_Name (xX O S.raise j (λh=>by injection h) (.ref D) λs2 E=>?_)),xH x,(o J L a hr)];have t:=S.raised F f a;have s:=E.h.stays _ _ t;have g:=S.HT S.stays (Ut O.JZ u (λh=>by injection h)) E;have I:=E.wt t;refine⟨m,⟨o,J,L,s,hr⟩,λG v=>?_⟩;refine aD (g.Q4 (s':={s2 with heap:=G}) F I (λe=>Cc λo a T d=>d.elim λk d=>by
  rw[s] at a;injection a with a;subst a;rw[hr.1] at d;injection d) v.extBut g.h.gens g.h.os) ?_
 erw[(P _),<-⟨_,_,w H b q D z,P⟩]
theorem PE.no(h:PE K N au ρ B ak os l Ds e s'):False:=by refine kJ h ?_;intro _ _ _ _ _ x _;exact x
inductive TC(af:eE)(w:bY)(K:fq)(T:lu)(n:Nat)(N:dJ)(A:Around)(l:List mA)(os:bL)(names:List (Str×dA)):List di->Option E->Prop
 |none:TC af w K T n N A l os names [] none
 |some {c:di} {m:E}:(∀dS dH,cU (nj names) (dk N names) dS A l dH n->ST af w K T n (dk N names) dS A l dH os m (isTrue c dS (eval c dS)))->TC af w K T n N A l os names [c] (some m)
theorem TC.run(h:TC af w K T n N A l os names ifs mc)(d:mA)(a:List (Addr×Obj))(E:cU (nj names) (dk N names) d A l a n)(v:V)(B:Heap)(H:Hp)(s:Shared)(Q:Bool->Hp->Prop)(S:Sat K (dk N names) d (upd ρ 1000 v) B a os H s)(q:wpC af w K T n mc (upd ρ 1000 v) H Q Ds):
  bO (model af w) A (forIn ifs true λc r=>if r=true then do let ok<-isTrue c d (eval c d);pure (cw ok) else pure (cw r)) (PG K (dk N names) d (upd ρ 1000 v) B a os (QB Q)) (λ_ _=>False) s:=by
 induction h using TC.casesOn with
 |none=>exact yT ⟨H,q,S⟩
 |some h=>exact DN (p_mono (h _ _ E _ _ _ _ _ _ S q) (λ_ _ z=>z) λ_ _ z=>z.no)
def O_(af:eE)(w:bY)(K:fq)(T:lu)(n:Nat)(ρ:Loc)(elt:E)(mc:Option E)(Qf:List V->Hp->Prop)(v:V)(H':Hp):Prop:=match v with
 | .ref a=>(match H' a with
   |some (.list vs)=>vs.length<=1000/\j8 (λv H Q=>dm af w K T n elt (upd ρ 1000 v) H Q Ds) (λv H Q=>wpC af w K T n mc (upd ρ 1000 v) H Q Ds) (λcI=>cI a=some (.list vs)) vs [] H' Qf
   |_=>False)
 |_=>False
theorem zZ(O:cU sc N au A l ak n)(F:scope.kind=.function)(M:Hj N x scope.names)(u:∀x,gG iter au x=pure x)(S:Sat K N au ρ B ak os H s)(h1:SE af w K T n N au A l ak os mit (eval iter au))(J:∀i k,cU (nj scope.names) (dk N scope.names) i A l k n->SE af w K T n (dk N scope.names) i A l k os GN (eval elt i))(L:TC af w K T n N A l os scope.names ifs mc)(o:∀D C m s' g j,g D=none->Qf j g->Sat K N au ρ B ak os (upd g D (.list j)) s'->s'.heap.Ns C m->Off N au B ak C->¬FP (upd g D (.list j)) s'.heap C->BX (model af w) A (PE K N au ρ B ak os l X) use Q' (.ref D) C (.ok .next) s')(h:dm af w K T n mit ρ H (λv g=>O_ af w K T n ρ GN mc Qf v g) X):
  bO (model af w) A (comprehension (.ListComp elt [⟨.Name x px,iter,ifs,0⟩] scope pos) scope au p2 (newList []) false (eval iter au) use) Q' (PE K N au ρ B ak os l X) s:=by
 refine Q7 (Qf:=Qf) O F M u S
  (λi k E v B H s Q S q=>p_mono (J _ _ E _ _ _ _ _ _ S q) (λ_ _ z=>z) λ_ _ z=>z.no) (λi k E v B H s Q S q=>L.run _ _ E v B H s Q S q) ?_
 refine i6 S (λR I=>h1 _ _ _ _ _ _ I h) λv s1 p=>bI λr y q G P=>⟨p,G,.inl ?_,λD C m s' g j a b c _ d e f=>o D C m s' g j a b c d e f⟩
 induction r using V.casesOn with
 |ref a=>
  have e:=y.inv;erw[ay (gh (show jZ p a _ from q)),(t e2 q),<-⟨a,t,e,e2,q.1,q.2⟩]
 |_=>exact q.elim
def UR(af:eE)(w:bY)(K:fq)(T:lu)(n:Nat)(ρ:Loc)(elt:E)(Qf:List V->Hp->Prop)(v:V)(H':Hp):Prop:=∃k,v=.int k/\0<=k/\k<=1000/\
   j8 (λv H Q=>dm af w K T n elt (upd ρ 1000 v) H Q Ds) (λ_ H Q=>Q true H) (λ_=>True) (gK 0 k) [] H' Qf
theorem BD(O:cU sc N au A l ak n)(M:TabsOk T K)(F:scope.kind=.function)(W:Hj N x scope.names)(S:Sat K N au ρ B ak os H s)(I:(r !=("__debug__":Str))=true)(hr:(sc.lookup r==some .globalImplicit)=true)(G:T.glob r=some .nC)(u:(starEach [hi] au).any (·.1)=false)(h1:Ad af w K T n N au A l ak os [PY] (spliced (backTo cp (starEach [hi] au))))(U:∀i o,cU (nj scope.names) (dk N scope.names) i A l o n->SE af w K T n (dk N scope.names) i A l o os GN (eval elt i))(p:∀D C m s' g j,g D=none->Qf j g->Sat K N au ρ B ak os (upd g D (.list j)) s'->s'.heap.Ns C m->Off N au B ak C->¬FP (upd g D (.list j)) s'.heap C->BX (model af w) A (PE K N au ρ B ak os l X) use Q' (.ref D) C (.ok .next) s')(h:dm af w K T n PY ρ H (λv g=>UR af w K T n ρ GN Qf v g) X):
  bO (model af w) A (comprehension (.ListComp elt [⟨.Name x px,.Call (.Name r np) [hi] [] cp,[],0⟩] scope pos) scope au p2 (newList []) false (eval (.Call (.Name r np) [hi] [] cp) au) use) Q' (PE K N au ρ B ak os l X) s:=by
 refine Q7 (Qf:=Qf) O F W (λ_=>rfl) S
  (λi o E v B H s Q S q=>p_mono (U _ _ E _ _ _ _ _ _ S q) (λ_ _ z=>z) λ_ _ z=>z.no) (λi o E v B H s Q S q=>yT ⟨H,q,S⟩) ?_
 erw[<-jm u (bc (yK O S I hr (M.nC _ G) ?_)),<-i6 S (λB' R=>Ad.one h1 R h) λY s1 V=>(dg · λv x e r q P T1=>?_)];subst e;erw[fh q];clear q;intro k J h0 y q;subst J;erw[bf r.inv,(t L)];subst L;erw[<-⟨kA,bc (call_range_1 ?_)⟩,<-⟨V,(P.push _).same rfl,.inr ⟨_,_,_,_,k,rfl,Fm _ _ _ _ _ _ _,h0,y,q⟩,λD C m s' g j a b c _ d e f=>p D C m s' g j a b c d e f⟩]
theorem SE.comp(O:cU sc N au A l ak n)(j:scope.kind=.function)(u:Hj N x scope.names)(t:∀x,gG iter au x=pure x)(h1:SE af w K T n N au A l ak os mit (eval iter au))(o:∀g i,cU (nj scope.names) (dk N scope.names) g A l i n->SE af w K T n (dk N scope.names) g A l i os GN (eval elt g))(p:TC af w K T n N A l os scope.names ifs mc):
  SE af w K T n N au A l ak os (.comp GN mit mc) (eval (.ListComp elt [⟨.Name x px,iter,ifs,0⟩] scope pos) au):=by
 intro ρ B H s Q X S h;rw[eval_ListComp];exact zZ O j u t S h1 o p (λD C m v r k a b c d e f=>AG (λr k q=>q) a b c d e f) h
theorem SE.kg(O:cU sc N au A l ak n)(u:TabsOk T K)(j:scope.kind=.function)(z:Hj N x scope.names)(o:(r !=("__debug__":Str))=true)(hr:(sc.lookup r==some .globalImplicit)=true)(k:T.glob r=some .nC)(t:(starEach [hi] au).any (·.1)=false)(h1:Ad af w K T n N au A l ak os [PY] (spliced (backTo cp (starEach [hi] au))))(v:∀g i,cU (nj scope.names) (dk N scope.names) g A l i n->SE af w K T n (dk N scope.names) g A l i os GN (eval elt g)):
  SE af w K T n N au A l ak os (.kg GN PY) (eval (.ListComp elt [⟨.Name x px,.Call (.Name r np) [hi] [] cp,[],0⟩] scope pos) au):=by
 intro ρ B H s Q X S h;rw[eval_ListComp];exact BD O u j z S o hr k t h1 v (λD C m E y p a b c d e f=>AG (λy p q=>q) a b c d e f) h
section
open PySem.Builtin PySem.Builtin.Str
theorem Ge{n:Int}(h:n.natAbs.log2<1920):(eP (toString n)).length<=1921:=by
 have e:=int_text_length_le (dc rfl) h;rw[Hf];assumption
theorem IU(n:Int)(t u:Tok)(h1:n.natAbs.log2<1920)(h2:((n.natAbs:Nat):Int).natAbs.log2<1920)(hl:(eP (toString ((n.natAbs:Nat):Int))).length<=1921):
  Meets («str.__mod__» ⟨[.str ("no command is of kind %d":E5) t,.int n u],[]⟩) (λ_ R s=>∀T t' k,T.length<=3000->R (.ok (.ret (.str T t'))) {s with toks:=k}):=by
 erw[aj (show(("no command is of kind %d":E5))=⟨#[110,111,32,99,111,109,109,97,110,100,32,105,115,32,111,102,32,107,105,110,100,32,37,100]⟩ from by decide+kernel),Meets.of_wp,(af w A _ s hS)];rw[KPc.entry_is];unfold Builtin.Str.percentFormat;erw[<-wpAny_bind (wpAny_isInstance (typeIs_int _ _ _) F.sub_int_tuple ?_),<-wpAny_bind (wpAny_of_eq rfl ?_),<-wpAny_bind (wpAny_of_eq (KPc.fills _ _) ?_)]
 kpc_if
 erw[<-wpAny_bind (wpAny_pure ?_),wpAny_bind];rw[KPc.range_list];erw[KPc.start,(_ _)]
 (refine KPc.turn ?_;kpc_check;(repeat kpc_if);refine wpAny_pure ?_;kpc_piece)
 (refine KPc.turn ?_;kpc_check;(repeat kpc_if);refine wpAny_bind ?_;refine wpAny_holding ?_;(repeat kpc_if);kpc_conv;refine wpAny_pure ?_;refine wpAny_pure ?_)
 have D:∀a,(⟨(percentInt {type:=100} a (eP (toString ((n.natAbs:Nat):Int))).cps.toList).toArray⟩:E5).length<=1922:=λa=>by
  generalize eP (toString (n.natAbs:Nat))=z at hl⊢;have:=hl;unfold percentInt PySem.Str.length
  induction a using tW<;>simp<;>(first|assumption|exact dM this rfl)
 erw[KPc.after_add (by kpc_g) rfl (by kpc_obj),(b g),KPc.turn,<-nM (KPc.ite_no (KPc.short_good g (aF (cV (D (decide (n<0))) _) (dc rfl))) ?_)]
 repeat kpc_if
 erw[wpAny_pure]
 kpc_if
 refine KPc.finish_ok g ?_ rfl ?_
 ·exact aF (cV (D (decide (n<0))) _) (dc rfl)
 ·erw[(t' k),<-⟨_,rfl,hS _ _ _ (aF g.len (aF (cV (D (decide (n<0))) _) (dc rfl)))⟩]
theorem pct{n:Int}(a:n.natAbs.log2<1920)(h:∀T t' k,T.length<=3000->Q (.str T t') {s with toks:=k}):
  bP (model af w) A (binaryOp .Mod (.str ("no command is of kind %d":E5) t) (.int n u)) Q Ex s:=by
 have e:((n.natAbs:Nat):Int).natAbs=n.natAbs:=rfl;exact AutoFloatOps.binaryOp_left_meets (dc rfl) (typeIs_str s _ t) (λb=>typeIs_int b n u) F.fills_str_mod F.fills_int_mod F.sub_int_str F.slot_str_mod F.slot_int_rmod F.entry_str_mod (F.args_str_mod_2 _ _)
  (IU n t u a (aj e a) (Ge (aj e a))) (λT t' k hl=>⟨(λe=>nomatch e),h T t' k hl⟩)
end
theorem Hz(h:big i):i.natAbs.log2<1920:=by
 unfold big at h
 by_cases h0:i.natAbs=0
 ·erw[aj h0];decide
 ·exact(Bu h0).mpr (a_ h (d3 (dc rfl) (dc rfl)))
def LF(ρ:Loc):List E->List V->Prop
 |[],[]=>True
 |m::ms,v::vs=>((∃i,m=.loc i/\ρ i=some v)\/m=.cst v)/\LF ρ ms vs
 |_,_=>False
theorem KZ(h:SJ T N sc x m=true):(x !=("__debug__":Str))=true/\((∃i k,m=.loc i/\N.lookup x=some (k,i))\/∃i,m=.cst (.int i)/\(sc.lookup x==some .globalImplicit)=true/\T.glob x=some (.int i)):=by
 induction m using E.casesOn with
 |loc i=>
  erw[aD (z9 (show DV N i x=true from h)),(h1 a),bf a,(k e),<-⟨h1,.inl ⟨i,k,rfl,e⟩⟩]
 |cst v=>
  induction v using V.casesOn with
  |int i=>
   erw[cA (i9 (show qM sc (HR · i) T x=true from h)),(h3 h4 h5),<-⟨h3,.inr ⟨i,rfl,h4,EU h5⟩⟩]
  |_=>exact Bool.noConfusion h
 |_=>exact Bool.noConfusion h
theorem HW(h:wX e=true):Mt T N sc ms (e::es)=(decide ((Jd e).length<=1000) &&Mt T N sc ms es):=if_pos h
theorem Hr(h:¬wX e=true)(c:Mt T N sc ms (e::es)=true):∃m Q,ms=m::Q/\SJ T N sc (ze (s1 e)) m=true/\Mt T N sc Q es=true:=by
 have c:=(if_neg h).symm.trans (show(if wX e=true then _ else _)=true from c)
 induction ms using lcs with
 |nil=>exact Bool.noConfusion c
 |cons m ms=>
  have c:=ag.mp c;exact⟨m,ms,rfl,c.1,c.2⟩
theorem Oz(h:wX e=true):EF k (e::es)=toStr e::EF k es:=if_pos h
theorem OF(h:¬wX e=true):EF (k+1) (e::es)=.FormattedValue (pk (s1 e)) (-1) none (e_ e)::EF k es:=if_neg h
theorem vL:∀(p:List di)(ms:List E)(Q:List V->Hp->Prop),Mt T N sc ms p=true->hM af w K T n ms ρ H Q X->∃vs,LF ρ ms vs/\Q vs H
 |[],[],Q,_,h=>⟨[],trivial,h⟩
 |[],m::ms,Q,c,_=>Bool.noConfusion c
 |e::es,ms,Q,c,h=>by
  by_cases b:wX e=true
  ·rw[HW b] at c;exact vL es _ Q (ag.mp c).2 h
  ·erw[dg (Hr b c),(m f g o d)];subst g;rcases(KZ o).2 with⟨i,k,rfl,_⟩|⟨i,rfl,_⟩
   ·erw[ay (zi h),(v j h),ay (vL es f _ d h),(vs a q),<-⟨v::vs,⟨.inl ⟨i,rfl,j⟩,a⟩,q⟩]
   ·erw[ay (vL es f (λvs l=>Q (V.int i::vs) l) d h),(vs a q),<-⟨_::vs,⟨.inr rfl,a⟩,q⟩]
theorem FV(O:cU sc N au A l ak n)(G:TabsOk T K):∀(x:List di)(ms:List E)(vs:List V)(d:Str)(s:Shared),Mt T N sc ms x=true->LF ρ ms vs->(∀v∈vs,∃i,v=.int i/\big i)->d.length+1000*x.length<=9000->
  Sat K N au ρ B ak os H s->(∀o s1,o.length<=9000->Sat K N au ρ B ak os H s1->Qf o s1)->Joins (model af w) A Ex (evalEach (EF ms.length x) au) d Qf s
 |[],ms,vs,d,s,_,_,_,hz,S,q=>q d s (by simpa using hz) S
 |e::es,ms,vs,d,s,c,a,hv,hz,S,q=>by
  have L:=sizeLine_eq;simp only[aV] at hz
  by_cases p:wX e=true
  ·rw[HW p] at c;erw[aj (Oz p)];have c:=ag.mp c;have u:=of_decide_eq_true c.1;refine wpAny_Constant_str ⟨Jd e,_,rfl,?_,?_⟩
   ·rw[AZ];exact aF (m:=9000) (gP [(zp av (zm 1000 (zs aX)),zn 9000),(bT,zn 1000)] (zp av bT,zn 9000) rt hz u) (by rw[sizeLine_eq];decide)
   ·exact FV O G _ _ vs _ _ c.2 a hv (by rw[AZ];exact gP [(zp av (zm 1000 (zs aX)),zn 9000),(bT,zn 1000)] (zp (zp av bT) (zm 1000 aX),zn 9000) rt hz u) (S.tok _) q
  ·erw[dg (Hr p c),(m Q P u U)];subst P;erw[aj aV,aj (OF p)]
   induction vs using lcs with
   |nil=>exact a.elim
   |cons v vs=>
    erw[aD a,(J X),ay (hv _ kf),(i M F)];subst M;have D:=Hz F;have I:(eP (toString i)).length<=401:=by
     have D:i.natAbs.log2<400:=by
      unfold big at F
      by_cases h0:i.natAbs=0
      ·erw[aj h0];decide
      ·exact(Bu h0).mpr F
     have e:=int_text_length_le (dc rfl) D;rw[Hf];assumption
    have g:∀t s1,Sat K N au ρ B ak os H s1->bP (model af w) A (formatField (.int i t) Hg) (λv W=>∃y t,v=.str y t/\(d++y).length<=iq/\Joins (model af w) A Ex (evalEach (EF Q.length es) au) (d++y) Qf W) Ex s1:=λt s1 Y=>by
     refine wpAny_formatField_int D ⟨_,_,rfl,?_,?_⟩
     ·rw[AZ];exact yj [(zp av aX,zn 9000),(zn 16777216,bT),(gi,zn 401)] (zp av gi,bT) rt hz (aa (ao L)) I
     ·exact FV O G es Q vs _ _ U X (λv C=>hv v (fV C)) (by rw[AZ];exact gP [(zp av (zm 1000 (zs aX)),zn 9000),(bT,zn 401)] (zp (zp av bT) (zm 1000 aX),zn 9000) rt hz I) (Y.tok _) q
    erw[aD (KZ u),(f nm),wpAny_FormattedValue_plain];rcases nm with⟨j,k,rfl,hN⟩|⟨j,rfl,hs,hg⟩
    ·have z:ρ j=some (.int i):=by
      rcases J with⟨i',e,h⟩|e
      ·injection e with e;subst e;exact h
      ·injection e
     exact wpAny_Name (Hq O S hN z λvv r=>by cases r with|int _ t=>exact g t _ S) (by simpa[bne] using f)
    ·have b:j=i:=by
      rcases J with⟨i',e,h⟩|e
      ·injection e
      ·cases e;rfl
     replace b:=b.symm;subst b;erw[bf (G.int _ _ hg),(t R),<-yK O S f hs R (g t _ S)]
theorem SE.Xd(a:x.length<=1000):SE af w K T n N au A l ak os (.text []) (eval (.Constant (.str x) k pos) au):=by
 erw[(ρ B H s Q X S h),<-bc (wpAny_Constant_str ⟨H,⟨_,.text x _ (dM a rfl),h.2.2⟩,S.tok _⟩)]
theorem SE.Wk(O:cU sc N au A l ak n)(e:TabsOk T K)(h2:2<=(EF ms.length ps).length)(h8:ps.length<=8)(c:Mt T N sc ms ps=true):SE af w K T n N au A l ak os (.text ms) (eval (.JoinedStr (EF ms.length ps) pos) au):=by
 erw[(ρ B H s Q X S h),cY (vL ps ms _ c h.2),(v a d q)];generalize D:EF ms.length ps=es at h2
 match es,h2,D with
 |p1::p2::rest,h2,D=>
  erw[<-bc (wpAny_JoinedStr ?_),c_ D,<-FV O e ps ms v Hg s c a d ?_ S λo s1 b f=>⟨?_,H,⟨.text,?_,q⟩,f.tok _⟩]
  ·have:Hg.length=0:=rfl;exact fp [(av,zn 0),(zm 1000 aX,zm 1000 (zn 8))] (zp av (zm 1000 aX),zn 9000) rt (aa this) (aP 1000 h8)
  ·erw[aj sizeLine_eq,<-dM b rfl]
  ·exact .text o _ (dM b rfl)
theorem SE.YT(h1:SE af w K T n N au A l ak os m (eval e au)):
  SE af w K T n N au A l ak os (.text [m]) (eval (.BinOp (.Constant (.str ("no command is of kind %d":Str)) k p1) .Mod e pos) au):=by
 erw[(ρ B H s Q X S h),<-HX (bc (wpAny_Constant_str ?_)),<-i6 (S.tok _) (λp d=>h1 _ _ _ _ (λv g=>(∀u∈[v],∃i,u=.int i/\big i)/\Q .text g) _ d h.2) λv s1 f=>(cY · λx r a q c o=>?_),ay (a x kf),(i e b)];subst e;erw[bf r.inv,(t e)];subst e;exact bc (pct (Hz b) λT j k hl=>⟨f,⟨_,.text T _ (dM hl rfl),q⟩,c.tok _⟩)
variable{y:di}
section
def VV(af:eE)(w:bY)(K:fq)(T:lu)(n:Nat)(l:List mA)(os:bL)(k:Nat):Prop:=∀(m:E),sizeOf m<k->∀(y:di)(N:dJ) (sc:List (Str×dA)) (au:mA) (A:Around) (ak:List (Addr×Obj)),cU sc N au A l ak n->kH T N sc m y=true->
 SE af w K T n N au A l ak os m (eval (jb m y) au)/\ST af w K T n N au A l ak os m (isTrue (jb m y) au (eval (jb m y) au))
theorem vU(h:kH T N sc m y=true):yY T N sc [m] [y]=true:=by
 show(kH T N sc m y&&true)=true;erw[aj h];rfl
theorem Ia(h:Ru N x=true):(zg x).kind=.function/\Hj N (ze (p9 x).target) (zg x).names:=by
 have a:=ag.mp h;have b:=ag.mp a.2;exact⟨beq_iff_eq.mp a.1,Hj.of b.1 b.2⟩
theorem Io(h:kH T N sc (.kg elt hi) x=true):
  ((zg x).kind=.function/\Hj N (ze (p9 x).target) (zg x).names)/\qM sc Hs T (ze (s1 (p9 x).iter))=true/\kH T N sc hi (yL (oW (p9 x).iter))=true/\kH T (dk N (zg x).names) (nj (zg x).names) elt (s1 x)=true:=
 have a:=ag.mp h;have b:=ag.mp a.2;have c:=ag.mp b.2
 ⟨Ia a.1,b.1,c.1,c.2⟩
theorem LG(h:kH T N sc (.comp elt it c) x=true):
  ((zg x).kind=.function/\Hj N (ze (p9 x).target) (zg x).names)/\kH T N sc it (p9 x).iter=true/\okC T (dk N (zg x).names) (nj (zg x).names) c (p9 x).ifs=true/\kH T (dk N (zg x).names) (nj (zg x).names) elt (s1 x)=true:=
 have a:=ag.mp h;have b:=ag.mp a.2;have c:=ag.mp b.2
 ⟨Ia a.1,b.1,c.1,c.2⟩
section
variable{k:Nat}
theorem Ab(I:VV af w K T n l os k)(O:cU sc N au A l ak n):
  ∀(ms:List E)(xs:List di),sizeOf ms<k+1->yY T N sc ms xs=true->Ad af w K T n N au A l ak os ms (spliced (backTo pos (starEach (w9 ms xs) au)))
 |[],_,_,_=>Ad.nil
 |m::ms,xs,hz,h=>
  have h:=ag.mp h;have a:=hz
  Ad.cons noStar (I m (GY a) _ N sc au A ak O h.1).1 (Ab I O ms xs.tail (Gn a) h.2)
theorem Xp(I:VV af w K T n l os k)(O:cU sc N au A l ak n):
  ∀(m:Option E)(x:Option di),sizeOf m<k+1->okO T N sc m x=true->SO af w K T n N au A l ak os m (evalPart (toO m x) au)
 |none,_,_,_=>SO.none
 |some m,x,hz,h=>
  SO.some (I m (Xr hz) _ N sc au A ak O h).1
theorem FO(I:VV af w K T n l os k)(O:cU sc N au A l ak n):
  ∀(ms:List E)(xs:List di),sizeOf ms<k+1->yY T N sc ms xs=true->Bp af w K T n N au A l ak os op ms (eval (.BoolOp op (w9 ms xs) pos) au)
 |[],_,_,_=>λρ B H s Q X S h=>by
  induction op using BoolOp.casesOn
  ·exact False.elim h
  ·exact False.elim h
 |[m],xs,hz,h=>
  have h:=ag.mp h;have a:=hz
  Bp.one (I m (fp [(zs (zs (zp (zn 1) av)),zs aX)] (zs av,aX) rt a) _ N sc au A ak O h.1).1
 |m::m2::ms,xs,hz,h=>
  have h:=ag.mp h;have a:=hz
  Bp.more (I m (GY a) _ N sc au A ak O h.1).1 (FO I O (m2::ms) xs.tail (Gn a) h.2)
theorem MY(I:VV af w K T n l os k)(O:cU sc N au A l ak n):
  ∀(ms:List E)(xs:List di),sizeOf ms<k+1->yY T N sc ms xs=true->Oe af w K T n N au A l ak os all ms (isTrue (.BoolOp (H_ all) (w9 ms xs) pos) au whole)
 |[],_,_,_=>Oe.nil
 |m::ms,xs,hz,h=>
  have h:=ag.mp h;have a:=hz
  Oe.cons (I m (GY a) _ N sc au A ak O h.1).2 (MY I O ms xs.tail (Gn a) h.2)
theorem ST.no(h:∀ρ H Q X,¬tG af w K T n m ρ H Q X):ST af w K T n N au A l ak os m t:=λ_ _ _ _ _ _ _ q=>absurd q (h _ _ _ _)
theorem ST.RG(O:cU sc N au A l ak n)(i:TabsOk T K)(d:(x !=("__debug__":Str))=true)(a:(sc.lookup x==some .globalImplicit)=true)(b:T.glob x=some (.call c))(t:(starEach es au).any (·.1)=false)(h1:Ad af w K T n N au A l ak os ms (spliced (backTo pos (starEach es au))))(e:∀f,c≠.fn f):ST af w K T n N au A l ak os (.call c ms) (isTrue (.Call (.Name x np) es [] pos) au (eval (.Call (.Name x np) es [] pos) au)):=by
 intro ρ B H s Q X S h;have g:hM af w K T n ms ρ H (λ_ _=>False) X:=by
  induction c using E8.casesOn with
  |fn f=>exact absurd rfl (e f)
  |_=>exact h
 erw[<-sZ ?_ rfl,<-jm t (bc (yK O S d a (i.call _ _ b).1 ?_)),<-i6 S (λu j=>h1 _ _ _ _ _ _ j g) λv s1 p=>(cY · λk r hl q o m=>q.elim)]
theorem Ti(b:TabsOk T K)(O:cU sc N au A l ak n)(h:NS T sc v y=true):SE af w K T n N au A l ak os (.cst v) (eval (uJ v y) au):=by
 unfold NS at h;unfold uJ;cases q:isNm y with
 |true=>
  rw[q,if_pos rfl] at h;have h:=ag.mp h
  induction v using V.casesOn with
  |int i=>
   erw[cA (i9 h.2),(h1 h2 h3),bf (b.int _ _ (EU h3)),(t nm),<-SE.abZ O h1 h2 nm]
  |_=>exact Bool.noConfusion h.1
 |false=>
  rw[q,if_neg h_] at h;cases a:Jl y with
  |true=>
   rw[a,if_pos rfl] at h
   induction v using V.casesOn with
   |int i=>
    have e:=SE.neg (af:=af) (w:=w) (K:=K) (T:=T) (n:=n) (N:=N) (au:=au) (A:=A) (l:=l) (ak:=ak) (os:=os) (c:= -i) (k:=kE (s1 y)) (pos:=e_ (s1 y)) (p2:=e_ y);rw[Int.neg_neg] at e;exact e
   |_=>exact Bool.noConfusion h
  |false=>
   rw[a,if_neg h_] at h;exact SE.cst h
end
theorem G1:isTrue (uJ v y) au t=(do let u<-t;standAt (uJ v y).pos;holding [u] (truthy u)):=by
 unfold uJ;cases isNm y
 ·cases Jl y<;>rfl
 ·rfl
theorem snd(s:TabsOk T K):∀k,VV af w K T n l os k
 |0=>λm g=>absurd g (uh _)
 |k+1=>λm g y N sc au A ak O h=>by
  have I:=snd s k;have hu:A.units+20<cLine:=by
   have:=O.ar.units;exact fp [(zk (zp av aX) 90,zn 9000)] (zs (zk av 20),zn 9900) rt this
  induction m using E.casesOn with
  |cst v=>
   have H:=Ti (af:=af) (w:=w) (os:=os) s O h;exact⟨H,ST.leaf H G1 λρ H Q X q=>q⟩
  |loc i=>
   erw[aD (z9 h),(h1 eK),bf eK,(kd e)];have H:=SE.name (af:=af) (w:=w) (K:=K) (T:=T) (pos:=e_ y) (os:=os) O h1 e;exact⟨H,ST.leaf H rfl λρ H Q X q=>q⟩
  |and j=>
   rw[E.and.sizeOf_spec] at g;exact⟨SE.and (FO I O j _ (by exact I_ g) h),ST.and (MY (all:=true) I O j _ (by exact I_ g) h)⟩
  |or j=>
   rw[E.or.sizeOf_spec] at g;exact⟨SE.or (FO I O j _ (by exact I_ g) h),ST.or (MY (all:=false) I O j _ (by exact I_ g) h)⟩
  |not m=>
   have d:=g;have q:=I m (by exact Xr d) _ N sc au A ak O h;exact⟨SE.not q.1,ST.not q.2⟩
  |ite c a b=>
   have h:=ag.mp h;have h2:=ag.mp h.2;have d:=g;have D:=I c (by exact Gp d) _ N sc au A ak O h.1;have C:=I a (by exact I8 d) _ N sc au A ak O h2.1;have R:=I b (by exact MA d) _ N sc au A ak O h2.2;exact⟨SE.ite D.2 C.1 R.1,ST.ite D.2 C.2 R.2⟩
  |bin op a b=>
   have h:=ag.mp h;have h2:=ag.mp h.2;have d:=g;exact⟨SE.bin (I a (by exact I8 d) _ N sc au A ak O h2.1).1 (I b (by exact MA d) _ N sc au A ak O h2.2).1,ST.no λρ H Q X q=>q⟩
  |cmp op a b=>
   have h:=ag.mp h;have h2:=ag.mp h.2;have d:=g;have D:=I a (by exact I8 d) _ N sc au A ak O h2.1;have C:=I b (by exact MA d) _ N sc au A ak O h2.2;exact⟨SE.cmp hu h.1 D.1 C.1,ST.cmp hu h.1 D.1 C.1⟩
  |qL a r=>
   have d:=g;have q:=I a (by exact GY d) _ N sc au A ak O h
   induction r using tW with
   |false=>exact⟨SE.qL (neg:=false) q.1,ST.qL (neg:=false) q.1⟩
   |true=>exact⟨SE.qL (neg:=true) q.1,ST.qL (neg:=true) q.1⟩
  |attr o kk=>
   have h:=ag.mp h;have h2:=ag.mp h.2;have d:=g;have H:=SE.attr (pos:=e_ y) (k:=kk) h2.1 (I o (by exact GY d) _ N sc au A ak O h2.2).1;exact⟨H,ST.leaf H rfl λρ H Q X q=>q⟩
  |A4 o lo F=>
   have h:=ag.mp h;have h2:=ag.mp h.2;rw[E.A4.sizeOf_spec] at g;exact⟨SE.A4 (I o (by exact Gp g) _ N sc au A ak O h.1).1 (Xp I O lo _ (yj [(zs (zp (zp av aX) bT),gi)] (zs aX,gi) rt g) h2.1) (Xp I O F _ (by exact Gn g) h2.2),ST.no λρ H Q X q=>q⟩
  |sub o i=>
   have h:=ag.mp h;have h2:=ag.mp h.2;have d:=g;have H:=SE.sub (pos:=e_ y) h.1 (I o (by exact GY d) _ N sc au A ak O h2.1).1 (I i (by exact Yu d) _ N sc au A ak O h2.2).1;exact⟨H,ST.leaf H rfl λρ H Q X q=>q⟩
  |tup j=>
   rw[E.tup.sizeOf_spec] at g;exact⟨SE.tup (Ab I O j _ (by exact I_ g) h),ST.no λρ H Q X q=>q⟩
  |lst j=>
   rw[E.lst.sizeOf_spec] at g;exact⟨SE.lst (Ab I O j _ (by exact I_ g) h),ST.no λρ H Q X q=>q⟩
  |bp o mm j=>
   have h:=ag.mp h;have B:=ag.mp h.2;have G:=ag.mp B.2;have g4:=ag.mp G.2;have g5:=ag.mp g4.2;rw[E.bp.sizeOf_spec] at g;have H:=SE.bp O s (of_decide_eq_true B.1) G.1 (of_decide_eq_true g4.1) h.1 fX (I o (by exact Gp g) _ N sc au A ak O g5.1).1 (Ab I O j _ (by exact Gn g) g5.2);exact⟨H,ST.leaf H rfl λρ H Q X q=>q⟩
  |call c j=>
   have h:=ag.mp h;have B:=ag.mp h.2;erw[cA (i9 h.1),(V U S)];rw[E.call.sizeOf_spec] at g;have h6:=Ab I O (pos:=e_ y) j _ (by exact Gn g) B.2;have H:=SE.call (np:=e_ (s1 y)) O s V U (B2 S) fX h6;refine⟨H,?_⟩
   by_cases M:∃f,c=.fn f
   ·erw[bf M];clear M;intro f iP;subst iP;exact ST.leaf H rfl λρ H Q X q=>q
   ·exact ST.RG O s V U (B2 S) fX h6 λf e=>M ⟨f,e⟩
  |kg p F=>
   erw[dY (Io h),(x L P J),cA (i9 L),(g1 B G)];have d:=g;have hk:sizeOf [F]<k+1:=by
    have:0<sizeOf p:=by induction p using E.casesOn<;>first|exact Nat.one_pos|exact sz1|exact sz2|exact sz3
    exact gP [(zs (zn 0),av),(zs (zp (zp (zn 1) av) aX),bT)] (zs (zs (zp (zn 1) aX)),bT) rt this d
   exact⟨SE.kg O s x.1 x.2 g1 B (wR G) (fX (ms:=[F]) (xs:=[_])) (Ab I O [F] [_] hk (vU P)) (λt u z=>(I p (by exact GY d) _ _ _ t A u z J).1),ST.no λρ H Q X q=>q⟩
  |comp p Y c=>
   erw[dY (LG h),(x L P J)];rw[E.comp.sizeOf_spec] at g;refine⟨?_,ST.no λρ H Q X q=>q⟩
   induction c using tU with
   |none=>exact SE.comp O x.1 x.2 wk (I Y (by exact I8 g) _ N sc au A ak O L).1 (λt u z=>(I p (by exact Gp g) _ _ _ t A u z J).1) .none
   |some c'=>
    have d:=g;exact SE.comp O x.1 x.2 wk (I Y (by exact I8 g) _ N sc au A ak O L).1 (λt u z=>(I p (by exact Gp g) _ _ _ t A u z J).1) (.some λt u z=>(I c' (gP [(zs (zp av (zp (zn 1) aX)),zs bT)] (zs aX,bT) rt d) _ _ _ t A u z P).2)
  |text j=>
   refine⟨?_,ST.no λρ H Q X q=>q⟩;have W:(decide (2<=(EF j.length (oW y)).length) &&(decide ((oW y).length<=8) &&Mt T N sc j (oW y)))=true->SE af w K T n N au A l ak os (.text j) (eval (.JoinedStr (EF j.length (oW y)) (e_ y)) au):=λh=>
    have h:=ag.mp h;have h2:=ag.mp h.2
    SE.Wk O s (of_decide_eq_true h.1) (of_decide_eq_true h2.1) h2.2
   by_cases q:jq y=true
   ·induction j using lcs with
    |nil=>
     have e:jb (.text []) y=.JoinedStr (EF 0 (oW y)) (e_ y):=if_pos q;erw[aj e,<-W ((if_pos q).symm.trans (show(if jq y=true then _ else decide _)=true from h))]
    |cons m j=>
     have e:jb (.text (m::j)) y=.JoinedStr (EF (m::j).length (oW y)) (e_ y):=if_pos q;erw[aj e,<-W ((if_pos q).symm.trans (show(if jq y=true then _ else(j.isEmpty&&kH T N sc m (s2 y)))=true from h))]
   ·induction j using lcs with
    |nil=>
     have h:=(if_neg q).symm.trans (show(if jq y=true then _ else decide _)=true from h);have e:jb (.text []) y=toStr y:=if_neg q;erw[aj e,<-SE.Xd (of_decide_eq_true h)]
    |cons m j=>
     have h:=(if_neg q).symm.trans (show(if jq y=true then _ else(j.isEmpty&&kH T N sc m (s2 y)))=true from h);have h:=ag.mp h;have e:jb (.text (m::j)) y=.BinOp (.Constant (.str ("no command is of kind %d":Str)) (kE (s1 y)) (e_ (s1 y))) .Mod (jb m (s2 y)) (e_ y):=if_neg q;erw[aj e]
     induction j using lcs with
     |nil=>
      rw[E.text.sizeOf_spec] at g;have d:=g;exact SE.YT (I m (fp [(zs (zp (zn 1) (zs (zp (zn 1) av))),zs aX)] (zs av,aX) rt d) _ N sc au A ak O h.2).1
     |cons=>exact Bool.noConfusion h.1
  |JT=>
   erw[aD (z9 h),(h1 lj),bf lj,(kd e),<-⟨SE.JT s O h1 e,ST.no λρ H Q X q=>q⟩]
variable{m:E}
theorem gu(a:TabsOk T K)(O:cU sc N au A l ak n)(h:kH T N sc m y=true):SE af w K T n N au A l ak os m (eval (jb m y) au):=(snd a (sizeOf m+1) m (gZ _) y N sc au A ak O h).1
theorem FG(a:TabsOk T K)(O:cU sc N au A l ak n)(h:kH T N sc m y=true):ST af w K T n N au A l ak os m (isTrue (jb m y) au (eval (jb m y) au)):=(snd a (sizeOf m+1) m (gZ _) y N sc au A ak O h).2
theorem Cv(a:TabsOk T K)(O:cU sc N au A l ak n)(h:yY T N sc ms xs=true):Ad af w K T n N au A l ak os ms (spliced (backTo pos (starEach (w9 ms xs) au))):=Ab (snd a (sizeOf ms)) O ms xs (gZ _) h
end
structure Td(sc:List (Str×dA))(N:dJ)(au:mA)(A:Around)(l:List mA)(ak:List (Addr×Obj))(n:Nat):Prop where
 e:cU sc N au A l ak n
 own:au.frame=some au.locals
 first:∃outer,l=au::outer
inductive N9|any|seen|held
def At(st:N9)(B:Heap)(l:List mA)(L e C:Addr)(h:Heap):Prop:=match st with
 | .any=>Way B l e (.ref C) .none h\/Way B l e (.ref C) (rawInt L) h\/sx B l e (.ref C) h
 | .seen=>Way B l e (.ref C) .none h\/Way B l e (.ref C) (rawInt L) h
 | .held=>Way B l e (.ref C) (rawInt L) h
theorem At.any{B:Heap}{l:List mA}(x:At .seen B l L e C h):At .any B l L e C h:=by
 rcases x with x|x
 ·exact .inl x
 ·exact .inr (.inl x)
theorem At.seen{B:Heap}{l:List mA}(x:At .held B l L e C h):At .seen B l L e C h:=.inr x
def PX(K:fq)(N:dJ)(au:mA)(B:Heap)(ak:List (Addr×Obj))(os:bL)(l:List mA)(st:N9)(X:Addr->Hp->Prop)(e:Value)(s':Shared):Prop:=
 ∃ea C H' eA,e=.ref ea/\X C H'/\Sat K N au eA B ak os H' s'/\At st B l au.locals ea C s'.heap
theorem PE.px(h:PE K N au ρ B ak os l X e s')(st:N9)(a:st≠.held):PX K N au B ak os l st X e s':=by
 erw[iR h,(b C c H e1 x S F),<-⟨b,C,H,ρ,e1,x,S,?_⟩]
 induction st using N9.casesOn with
 |any=>exact .inl F
 |seen=>exact .inl F
 |held=>exact absurd rfl a
theorem Sat.ups(S:Sat K N au ρ B ak os H s)(k:s.heap.UpToSlots h')(a:B.StaysIn h'):Sat K N au ρ B ak os H {s with heap:=h'}:=
 S.keep (ju.Lm k) a (λ_ _=>id) (λ_ _ _=>id) (λ_ _=>id) (λ_ _=>id) S.h.gens S.h.os
theorem EB(J:A.frames=some l)(O:Td sc N au A l ak n)(h:PX K N au B ak os l .seen X e s):kG M A au (PX K N au B ak os l .held X) e s:=by
 erw[iR h];clear h;intro a C H b d x S F;subst d;erw[bf O.first,(o i)];subst i;erw[bc];rcases F with F|F
 ·exact we J O.own F λf c k=>⟨a,C,H,b,rfl,x,S.ups k c.1,c⟩
 ·exact tB O.own F ⟨a,C,H,b,rfl,x,S,F⟩
theorem wg(O:Td sc N au A l ak n)(h:PX K N au B ak os l .held X e s):oz M A au (PX K N au B ak os l .held X) e s:=by
 erw[iR h];clear h;intro c C H d b x S F;subst b;unfold oz;erw[aj O.own,<-bc (Rv F (kZ (some au.locals) F λf a k=>⟨c,C,H,d,rfl,x,S.ups k a.1,a⟩))]
variable{st:N9}
theorem PX.to(b:st≠.held)(h:PX K N au B ak os l .held X e s'):PX K N au B ak os l st X e s':=by
 erw[iR h,(c C H d e1 x S a),<-⟨c,C,H,d,e1,x,S,?_⟩]
 induction st using N9.casesOn with
 |any=>exact a.seen.any
 |seen=>exact a.seen
 |held=>exact absurd rfl b
structure tV(sc:List (Str×dA))(N:dJ)(au:mA)(A:Around)(l:List mA)(ak:List (Addr×Obj))(n:Nat):Prop where
 s:Td sc N au A l ak n
 UD:∀x k i,(x,k,i)∈N->k≠.ro
theorem tV.e(O:tV sc N au A l ak n):cU sc N au A l ak n:=O.s.e
theorem Sat.Ey(O:tV sc N au A l ak n)(G:Sat K N au ρ B ak os H s)(k:B.StaysIn B')(S:Sat K N au eA B' ak os H' s'):Sat K N au eA B ak os H' s':=
 G.HT k (λx i m=>absurd rfl (O.UD _ _ _ m)) S
def PF(K:fq)(N:dJ)(au:mA)(B:Heap)(ak:List (Addr×Obj))(os:bL)(Q:Fl->Loc->Hp->Prop)(f:Flow)(s':Shared):Prop:=match f with
 | .next=>∃eA H',Q .next eA H'/\Sat K N au eA B ak os H' s'
 | .brk=>∃eA H',Q .brk eA H'/\Sat K N au eA B ak os H' s'
 | .ret v=>∃x eA H',cZ s'.heap v x/\Q (.ret x) eA H'/\Sat K N au eA B ak os H' s'
 | .cont=>False
def SS(af:eE)(w:bY)(K:fq)(T:lu)(n:Nat)(N:dJ)(au:mA)(A:Around)(l:List mA)(ak:List (Addr×Obj))(os:bL)(st:N9)(m:Mine.S)(t:Sem Flow):Prop:=
 ∀ρ B H s Q X,Sat K N au ρ B ak os H s->wpS af w K T n m ρ H Q X->bO (model af w) A t (PF K N au B ak os Q) (PX K N au B ak os l st X) s
def CT(af:eE)(w:bY)(K:fq)(T:lu)(n:Nat)(N:dJ)(au:mA)(A:Around)(l:List mA)(ak:List (Addr×Obj))(os:bL)(st:N9)(m:List Mine.S)(t:Sem Flow):Prop:=
 ∀ρ B H s Q X,Sat K N au ρ B ak os H s->bN af w K T n m ρ H Q X->bO (model af w) A t (PF K N au B ak os Q) (PX K N au B ak os l st X) s
theorem pR(d:st≠.held)(S:Sat K N au ρ B ak os H s)(h:∀b,Sat K N au ρ b ak os H s->bO M A t (PG K N au ρ b ak os Qa) (PE K N au ρ b ak os l X) s)(k:∀a s' c,Qa a s'.heap c->Sat K N au ρ B ak os c s'->dN s.heap s'.heap->G a s'):bO M A t G (PX K N au B ak os l st X) s:=
 p_mono (i6 S h k) (λ_ _ z=>z) λ_ _ z=>z.px st d
theorem CT.nil:CT af w K T n N au A l ak os st [] (execs [] au):=λρ B H s Q X S h=>by
 exact oq ⟨ρ,H,h,S⟩
theorem CT.cons(h1:SS af w K T n N au A l ak os st m (exec V9 au))(h2:CT af w K T n N au A l ak os st ms (execs rest au)):CT af w K T n N au A l ak os st (m::ms) (execs (V9::rest) au):=λρ B H s Q X S h=>by
 refine wZ (p_mono (h1 _ _ _ _ _ _ S h) (λf s1 q=>?_) λ_ _ z=>z)
 induction f using Flow.casesOn with
 |next=>refine df q ?_;clear q;intro e b q a;exact h2 _ _ _ _ _ _ a q
 |brk=>refine df q ?_;clear q;intro e b q a;exact⟨e,b,q,a⟩
 |ret v=>refine iD q ?_;clear q;intro x e b r q a;exact⟨x,e,b,r,q,a⟩
 |cont=>exact q
theorem SS.pass:SS af w K T n N au A l ak os st .pass (exec (.Pass pos) au):=λρ B H s Q X S h=>by
 exact Tw ⟨ρ,H,h,S⟩
theorem SS.brk:SS af w K T n N au A l ak os st .brk (exec (.Break pos) au):=λρ B H s Q X S h=>by
 exact OC ⟨ρ,H,h,S⟩
theorem SS.abi:SS af w K T n N au A l ak os st (.ret none) (exec (.Return none pos) au):=λρ B H s Q X S h=>by
 exact Bn ⟨_,ρ,H,.none,h,S⟩
theorem SS.ret(a:st≠.held)(h1:SE af w K T n N au A l ak os m (eval e au)):SS af w K T n N au A l ak os st (.ret (some m)) (exec (.Return (some e) pos) au):=λρ B H s Q X S h=>by
 exact MM (pR a S (λg c=>h1 _ _ _ _ _ _ c h) λv s1 d=>bI λx r q b f=>⟨x,ρ,d,r,q,b⟩)
theorem SS.if{mt:E}(e:st≠.held)(h1:ST af w K T n N au A l ak os mt (isTrue t au (eval t au)))(h2:CT af w K T n N au A l ak os st ma (execs a au))(h3:CT af w K T n N au A l ak os st mb (execs b au)):
  SS af w K T n N au A l ak os st (.dp mt ma mb) (exec (.If t a b pos) au):=λρ B H s Q X S h=>by
 refine aaN (p_mono (h1 _ _ _ _ _ _ S h) (λc s1=>bI λf q d=>?_) λ_ _ z=>z.px st e);unfold QB at q
 induction c using tW with
 |true=>simp only[if_true] at q⊢;exact h2 _ _ _ _ _ _ d q
 |false=>simp only[jV,if_false] at q⊢;exact h3 _ _ _ _ _ _ d q
theorem El(h:qh e=true)(f:nA e=true):swapsWith e t k au=pure false:=by
 induction e using Expr.casesOn with
 |ListComp=>exact Bool.noConfusion h
 |SetComp a b c d=>exact Bool.noConfusion f
 |DictComp a b c d f=>exact Bool.noConfusion f
 |_=>rfl
theorem SS.expr(O:cU sc N au A l ak n)(a:st≠.held)(b:qh e=true)(c:nA e=true)(h1:SE af w K T n N au A l ak os m (eval e au)):SS af w K T n N au A l ak os st (.expr m) (exec (.Expr e pos) au):=λρ B H s Q X S h=>by
 erw[UT (by unfold interactive;erw[aj O.kind];rfl) (El b c),<-pR a S (λj f=>h1 _ _ _ _ _ _ f h) λv s1 g=>bI λx r q d i=>⟨ρ,g,q,d⟩]
theorem FT(g:nA e=true):swapsWith e (some (.Attribute o f px)) k au=pure false:=by
 induction e using Expr.casesOn with
 |SetComp a b c d=>exact Bool.noConfusion g
 |DictComp a b c d f=>exact Bool.noConfusion g
 |_=>rfl
theorem Jc(g:nA e=true):swapsWith e (some (.Subscript o i px)) k au=pure false:=by
 induction e using Expr.casesOn with
 |SetComp a b c d=>exact Bool.noConfusion g
 |DictComp a b c d f=>exact Bool.noConfusion g
 |_=>rfl
theorem SS.cD(b:st≠.held)(g:nA e=true)(h1:SE af w K T n N au A l ak os m (eval e au))(h2:SE af w K T n N au A l ak os mo (eval o au)):
  SS af w K T n N au A l ak os st (.cD mo k m) (exec (.Assign [.Attribute o (atName k) px] e pos) au):=λρ B H s Q X S h=>by
 erw[<-vy (FT g) (pR b S (λy a=>h1 _ _ _ _ _ _ a h) λv s1 G=>bI λx r q t E=>?_),<-pR b t (λy a=>h2 _ _ _ _ _ _ a q) λD s2 F=>bI λC c f p i=>?_,<-bc (wpAny_mono (Er (Ex:=λ_ _=>False) c (r.mono i) p f) (λ_ s3=>bI λu d j=>⟨ρ,u,d,j⟩) λ_ _ z=>z.elim)]
theorem SS.hX(c:st≠.held)(u:nA e=true)(h1:SE af w K T n N au A l ak os m (eval e au))(h2:SE af w K T n N au A l ak os mo (eval o au))(h3:SE af w K T n N au A l ak os mi (eval i au)):
  SS af w K T n N au A l ak os st (.hX mo mi m) (exec (.Assign [.Subscript o i px] e pos) au):=λρ B H s Q X S h=>by
 erw[<-vh (Jc u) (pR c S (λj a=>h1 _ _ _ _ _ _ a h) λv s1 L=>bI λx r q D I=>?_),<-pR c D (λj a=>h2 _ _ _ _ _ _ a q) λG s2 J=>bI λE k t C y=>?_,<-pR c C (λj a=>h3 _ _ _ _ _ _ a t) λvi s3 g=>bI λF p b d f=>?_,<-bc (wpAny_mono (L9 (Ex:=λ_ _=>False) (k.mono f) p ((r.mono y).mono f) d b) (λ_ s3=>bI λg b d=>⟨ρ,g,b,d⟩) λ_ _ z=>z.elim)]
theorem SS.while{mt:E}(O:tV sc N au A l ak n)(g:st≠.held)(h1:ST af w K T n N au A l ak os mt (isTrue t au (eval t au)))(h2:CT af w K T n N au A l ak os .seen mb (execs b au)):
  SS af w K T n N au A l ak os st (.o9 mt mb) (exec (.While t b [] pos) au):=λρ B H s Q X S h=>by
 erw[Ov];have o:=O.e.ar.frames;have up:∀{e a},PX K N au B ak os l .seen X e a->kG (model af w) A au (λe a=>oz (model af w) A au (PX K N au B ak os l st X) e a) e a:=λz=>
  p_mono (EB o O.s z) (λ_ s2 k=>p_mono (wg O.s k) (λ_ _ z=>PX.to g z) λ_ _ z=>PX.to g z) λ_ s2 k=>p_mono (wg O.s k) (λ_ _ z=>PX.to g z) λ_ _ z=>PX.to g z
 refine h (λρ H=>∀s,Sat K N au ρ B ak os H s->dV (model af w) A (.whileLoop t b [] au) (λr a=>match r with
  | .ok f=>PF K N au B ak os Q f a
  | .error e=>oz (model af w) A au (PX K N au B ak os l st X) e a) s) (λρ H step s S=>?_) s S
 refine MB (p_mono (h1 _ _ _ _ _ _ S step) (λc s1=>bI λp q m=>?_) λ_ _ z=>up (z.px .seen (by intro h;injection h)));unfold QB at q
 induction c using tW with
 |false=>simp only[jV,if_false] at q⊢;exact⟨ρ,p,q,m⟩
 |true=>
  simp only[if_true] at q⊢;refine p_mono (h2 _ _ _ _ _ _ m q) (λf s2 z=>?_) λ_ _ z=>up z
  induction f using Flow.casesOn with
  |next=>refine df z ?_;intro i j q d;exact q s2 d
  |brk=>refine df z ?_;intro i j q d;exact⟨i,j,q,d⟩
  |ret v=>refine iD z ?_;intro x i j r q d;exact⟨x,i,j,r,q,d⟩
  |cont=>exact z.elim
theorem F1:∃b:Bool,swapsWith (.ListComp elt gens scope pos) (some (.Name x px)) k au=pure b/\(b=true->au.kindOf x=some .local):=by
 refine⟨au.blockKind== .function&&au.kindOf x==some .local&&px.line==pos.line&&!(scope.names.any λ(n,k)=>n==x&&(k== .local||k== .cell)),rfl,λh=>?_⟩;simp only[Bool.and_eq_true,beq_iff_eq] at h;exact h.1.1.2
theorem D3(O:cU sc N au A l ak n)(b:st≠.held)(d:N.lookup x=some (k,i))(c:k≠.ro)(a:swapsWith e (some (.Name x px)) pos.line au=pure false)(h1:SE af w K T n N au A l ak os m (eval e au)):
  SS af w K T n N au A l ak os st (.bq i m) (exec (.Assign [.Name x px] e pos) au):=λρ B H s Q X S h=>by
 exact Bg a (pR b S (λu j=>h1 _ _ _ _ _ _ j h) λv s1 o=>bI λp r q g t=>xX O g d c r λs2 f=>⟨_,o,q,f⟩)
theorem Tz(O:cU sc N au A l ak n)(a:N.lookup x=some (k,i))(h:au.kindOf x=some .local):k=.loc:=by
 have:=(O.ofName a).2.1;rw[h] at this
 induction k using Kd.casesOn<;>first|rfl|cases this
theorem YO(m:E)(y:di):qh (jb m y)=true\/(∃elt h,m=.kg elt h)\/∃elt i c,m=.comp elt i c:=by
 induction m using E.casesOn with
 |kg a b=>exact .inr (.inl ⟨a,b,rfl⟩)
 |comp a b c=>exact .inr (.inr ⟨a,b,c,rfl⟩)
 |cst v=>exact .inl (by show qh (uJ v y)=true;unfold uJ;cases isNm y<;>cases Jl y<;>rfl)
 |text d=>exact .inl (by
   induction d using lcs with
   |nil=>
    show qh (if jq y=true then .JoinedStr _ _ else toStr y)=true;cases jq y<;>rfl
   |cons m d=>
    show qh (if jq y=true then .JoinedStr _ _ else .BinOp _ _ _ _)=true;cases jq y<;>rfl)
 |_=>exact .inl rfl
theorem SS.bq{y:di}(r:TabsOk T K)(O:cU sc N au A l ak n)(P:st≠.held)(p:N.lookup x=some (k,i))(G:k≠.ro)(W:kH T N sc m y=true):
  SS af w K T n N au A l ak os st (.bq i m) (exec (.Assign [.Name x px] (jb m y) pos) au):=by
 have h1:SE af w K T n N au A l ak os m (eval (jb m y) au):=gu r O W;have I:∀{o:di} {j:List tO} {g:Scope} {F:Pos},SE af w K T n N au A l ak os m (eval (.ListComp o j g F) au)->
   (k=.loc->∀ρ B H s (Q:Fl->Loc->Hp->Prop) X,Sat K N au ρ B ak os H s->dm af w K T n m ρ H (λv u=>Q .next (upd ρ i v) u) X->
    bO (model af w) A (comprehension (.ListComp o j g F) g au (firstIterPos j F) (newList []) (firstAsync j) (firstIter j au) (some (assign (.Name x px) au))) (λ_ Cy=>∃eA cI,Q .next eA cI/\Sat K N au eA B ak os cI Cy) (PE K N au ρ B ak os l X) s)->
   SS af w K T n N au A l ak os st (.bq i m) (exec (.Assign [.Name x px] (.ListComp o j g F) pos) au):=λ{o j g F} h1 f=>by
  erw[ay (F1 (au:=au) (elt:=o) (gens:=j) (scope:=g) (pos:=F) (px:=px) (x:=x) (k:=pos.line)),(b hb hl)]
  induction b using tW with
  |false=>exact D3 O P p G hb h1
  |true=>
   have f:=f (Tz O p (hl rfl));erw[(ρ B H s Q X S h),Bq hb,<-az (p_mono (f ρ B H s Q X S h) (λ_ _ z=>bj z) λ_ _ z=>z.px st P)]
 rcases YO m y with hc|hc|hc
 ·exact D3 O P p G (El hc (tF m y)) h1
 ·erw[gR hc,(o hi R)];subst R;erw[dY (Io W),(t M Y L),cA (i9 M),(g1 g2 g3),I h1,(G ρ B H s Q X S h)];have p:=G▸p;exact BD O r t.1 t.2 S g1 g2 (wR g3) (fX (ms:=[hi])) (Cv r O (vU Y)) (λU V E=>gu r E L)
   (λD C m s' u J a b c d e f=>vA O p (λu J q=>q) a b c d e f) h
 ·erw[Ui hc,(o it c R)];subst R;erw[dY (LG W),(t M Y L),I h1,(G ρ B H s Q X S h)];have p:=G▸p
  induction c using tU with
  |none=>
   exact zZ O t.1 t.2 wk S (gu r O M) (λU V E=>gu r E L) .none
    (λD C m s' u J a b c d e f=>vA O p (λu J q=>q) a b c d e f) h
  |some c=>
   exact zZ O t.1 t.2 wk S (gu r O M) (λU V E=>gu r E L) (.some λU V E=>FG r E Y)
    (λD C m s' u J a b c d e f=>vA O p (λu J q=>q) a b c d e f) h
theorem HY:∀{is:List Nat} {xs:List di},(assignEach (zE is xs) au).length=is.length/\(assignEach (zE is xs) au).findIdx? (·.1)=none
 |[],_=>⟨rfl,rfl⟩
 |i::is,xs=>by
  erw[aD (HY (is:=is) (xs:=xs.tail)),(a b)];have e:assignEach (zE (i::is) xs) au=(false,assign (pk (yL xs)) au)::assignEach (zE is xs.tail) au:=rfl;erw[aj e,<-⟨by erw[aj aV,aj aV,aj a];rfl,?_⟩,aj (List.findIdx?_cons),aj b];rfl
theorem Ir(O:cU sc N au A l ak n):∀(is:List Nat)(xs:List di)(b:List Value)(vs:List V)(ρ:Loc)(s:Shared),Ks N is xs=true->vs.length=is.length->Sat K N au ρ B ak os H s->bU s.heap b vs->(∀s',Sat K N au (Cq is vs ρ) B ak os H s'->Q () s')->
  bP M A (assignInOrder ((assignEach (zE is xs) au).map (·.2)) b) Q Ex s
 |[],_,b,vs,ρ,s,_,hl,S,r,q=>by
  induction vs using lcs with
  |nil=>cases r;exact wpAny_pure (q s S)
  |cons=>injection hl
 |i::is,xs,b,vs,ρ,s,h,hl,S,r,q=>by
  have h:=ag.mp (show(D1 N i (ze (yL xs)) &&Ks N is xs.tail)=true from h);have e:=vZ h.1;cases r with
  |nil=>injection hl
  |cons g f=>
   rename_i v xv b vs;erw[assignInOrder_cons,<-wpAny_assign_Name (xX O S.raise e (λh=>by injection h) g λs2 E=>?_)];have d:=f.mono λa c j=>dN.of_stays E.h.stays _ _ (S.wy _ _ j);erw[cA (O.ofName e),(m _ _)];have k:=S.HT S.stays (Ut O.JZ m (λh=>by injection h)) E;exact Ir O is xs.tail b vs _ s2 h.2 (by simpa using hl) k d q
theorem SS.AF(O:cU sc N au A l ak n)(D:st≠.held)(E:HC e=true)(G:Ks N is xs=true)(h1:SE af w K T n N au A l ak os m (eval e au)):
  SS af w K T n N au A l ak os st (.AF is m) (exec (.Assign [.Tuple (zE is xs) k px] e pos) au):=λρ B H s Q X S h=>by
 rw[arm_exec_Assign]
 induction e using Expr.casesOn with
 |Call f c d p=>
  erw[<-az (bz (az ?_)),<-t_ (show swapsWithSole [.Tuple (zE is xs) k px] (.Call f c d p) pos.line au=pure false from rfl) (bj ?_),<-az (pR D S (λU i=>h1 _ _ _ _ _ _ i h) λv s1 P=>bI λx z=>(fh · λu e hl h8 q g R=>?_))];subst e;refine az (t_ (show swappedStores [.Tuple (zE is xs) k px] (.Call f c d p) au=pure none from rfl) (bj ?_));show bO _ A (assign (.Tuple (zE is xs) k px) au v>>= λ_=>pure Flow.next) _ _ s1;erw[dg (NB z),(a L F C r)];subst F;erw[aD (HY (au:=au) (is:=is) (xs:=xs)),(J I),<-bc (wpAny_bind (wpAny_assign_Tuple O.ar.handled C (aj J (aj kO (aj r.length (aj hl rfl)))) I λt k=>?_))];have j:∀b o,s1.heap.get? b=some o->t.get? b=some o:=λb o e=>k b o (zz (eQ e)) e;have M:=g.grow (s':={s1 with heap:=t}) j g.h.gens g.h.os;exact Ir O is xs L u ρ _ G hl M (r.mono (ju.tup (ju.of_keeps j) λ_ _ _=>id)) λy i=>wpAny_pure ⟨_,P,q,i⟩
 |_=>exact Bool.noConfusion E
theorem At.down{B:Heap}(k:B.StaysIn B')(x:At st B' l L e C h):At st B l L e C h:=by
 induction st using N9.casesOn with
 |any=>
  rcases x with x|x|x
  ·exact .inl (x.down k)
  ·exact .inr (.inl (x.down k))
  ·exact .inr (.inr (x.down k))
 |seen=>
  rcases x with x|x
  ·exact .inl (x.down k)
  ·exact .inr (x.down k)
 |held=>exact Way.down k x
theorem PX.down(h:PX K N au B' ak os l st X e s')(k:B.StaysIn B')(S:Sat K N au ρ B ak os H s)(O:tV sc N au A l ak n):PX K N au B ak os l st X e s':=by
 erw[iR h,(b C f c e1 x d a),<-⟨b,C,f,c,e1,x,Sat.Ey O S k d,a.down k⟩]
theorem Wf(c:D2 op=true)(S:Sat K N au ρ B ak os H s)(h:kI op (.int a) (.int b) H Q):bP (model af w) A (inplaceOp op (.int a t) (.int b u)) (PV K N au ρ B ak os Q) Ex s:=by
 induction op using Operator.casesOn<;>first|cases c|skip
 ·exact AutoIntOps.iadd_0 (PV.int S h)
 ·unfold kI at h;erw[aD h,(h0 q),<-irshift_int h0 (PV.int S q)]
 ·exact ior_int (PV.int S h)
theorem SS.pK(O:cU sc N au A l ak n)(p:st≠.held)(y:D2 op=true)(c:N.lookup x=some (k,i))(C:k≠.ro)(h1:SE af w K T n N au A l ak os m (eval e au)):
  SS af w K T n N au A l ak os st (.pK i op m) (exec (.AugAssign (.Name x px) op e pos) au):=λρ B H s Q X S h=>by
 erw[ay h];clear h;erw[(u o h),<-xN (bc (Hq O S c o λL f=>?_)),<-pR p S (λU G=>h1 _ _ _ _ _ _ G h) λv s1 R=>bI λJ d=>(dg · λa b e1 e2 q F P=>?_)];subst e1;subst e2;cases f with
 |int _ t=>
  cases d with
  |int _ u=>
   erw[<-bc (wpAny_mono (Wf (Ex:=λ_ _=>False) y F q) (λM s2=>(dg · λr I g j E=>?_)) λ_ _ z=>z.elim),<-xX O E c C g λs3 D=>⟨_,I,j,D⟩]
theorem SS.Cg(d:st≠.held)(M:D2 op=true)(h1:SE af w K T n N au A l ak os mo (eval o au))(h2:SE af w K T n N au A l ak os m (eval e au)):
  SS af w K T n N au A l ak os st (.Cg mo f op m) (exec (.AugAssign (.Attribute o (atName f) px) op e pos) au):=λρ B H s Q X S h=>by
 erw[<-q_ (pR d S (λx c=>h1 _ _ _ _ _ _ c h) λov s1 H1=>bI λD y q S1 T1=>?_),<-pR d S1 (λx c=>bc (wpAny_mono (attrS (Q:=λu H'=>dm af w K T n m ρ H' (λv O=>∃a b,u=V.int a/\v=V.int b/\kI op u v O λr i=>kX D f r i λC=>Q Fl.next ρ C) X) y c q) (λ_ _ z=>z.g) λ_ _ z=>z)) λL s2 H2=>bI λxu F J Y U=>?_,<-pR d Y (λx c=>h2 _ _ _ _ _ _ c J) λv s3 i=>bI λxv E=>(dg · λa b e1 e2 k p R=>?_)];subst e1;subst e2;have j:=(y.mono U).mono R;cases F with
 |int _ t=>
  cases E with
  |int _ u=>
   erw[<-pR d p (λx c=>bc (wpAny_mono (Wf M c k) (λ_ _ z=>z.g) λ_ _ z=>z)) λnw s4 C=>bI λr G I W P=>?_,<-bc (wpAny_mono (Er (Ex:=λ_ _=>False) (j.mono P) G W I) (λ_ s3=>bI λi k p=>⟨ρ,i,k,p⟩) λ_ _ z=>z.elim)]
theorem D7{St:List V->Heap->Prop}(O:tV sc N au A l ak n)(M:st≠.held)(hN:N.lookup x=some (.loc,i))(g:Nf af w A K I qR St)(J:Off N au B ak I)(h2:CT af w K T n N au A l ak os .seen mb (execs body au)):
  ∀(a:List V)(ρ:Loc)(H:Hp)(s:Shared),Sat K N au ρ B ak os H s->St a s.heap->¬FP H s.heap I->qR H->forL (λv ρ H Q=>bN af w K T n mb (upd ρ i v) H Q X) qR a ρ H Q->
   dV (model af w) A (.forLoop (.Name x px) (.ref I) body [] au) (λr s'=>match r with
    | .ok f=>PF K N au B ak os Q f s'
    | .error e=>oz (model af w) A au (PX K N au B ak os l st X) e s') s:=by
 intro a;have fr:=O.e.ar.frames;have up:∀{e s'},PX K N au B ak os l .seen X e s'->kG (model af w) A au (λe s'=>oz (model af w) A au (PX K N au B ak os l st X) e s') e s':=λz=>
  p_mono (EB fr O.s z) (λ_ s2 P=>p_mono (wg O.s P) (λ_ _ z=>PX.to M z) λ_ _ z=>PX.to M z) λ_ s2 P=>p_mono (wg O.s P) (λ_ _ z=>PX.to M z) λ_ _ z=>PX.to M z
 induction a with
 |nil=>
  erw[(ρ H s S u t L h),<-LC (g.done S.h.rel L u λp k=>?_),ay (g.there u),(oI j E),aD (S.Q4 (s':={s with heap:=p}) J t (λd=>(cY · λo c C _=>by rw[j] at c;injection c with c;subst c;exact E C)) k S.h.gens S.h.os),(S' _),<-⟨ρ,H,h,S'⟩]
 |cons v a ih=>
  erw[(ρ H s S u t L h),ay (g.there u),(oI j E),<-LC (g.item S.h.rel L u λp R vv rv XM k=>?_)];have W:=k.extBut;erw[aD (S.Q4 (s':={s with heap:=p,toks:=R}) J t (λd=>(cY · λo c C _=>by rw[j] at c;injection c with c;subst c;exact E C)) W S.h.gens S.h.os),(F T1)];have VX:=S.tH (s':={s with heap:=p,toks:=R}) J t W t;have XT:=rv.mono T1;clear S T1 t E j k W L u;generalize P_:({s with heap:=p,toks:=R})=s1 at F VX XT⊢;have Vl:p=s1.heap:=by refine' c_ P_ ?_;rfl
  rw[Vl] at XM;clear P_ Vl rv;erw[ay (g.there XM),(oI j E),xX O.e F.raise hN (λh=>by injection h) XT,(s2 EP)];have y:=F.raised J VX j;have Fs:=EP.h.stays _ _ y;have Y:=EP.wt y;have U:=g.keep XM λo e=>by rw[j] at e;injection e with e;subst e;exact Fs
  have b:=Sat.Ey O F F.stays EP;refine p_mono (h2 _ _ _ _ _ _ b.raise h) (λf s3 z=>?_) λe s3 z=>up (z.down b.stays b O);have y:=b.raised J Y Fs
  induction f using Flow.casesOn with
  |next=>
   erw[df z,(D G eK m),aD eK,(C q)];have MZ:=m.h.stays _ _ y;exact ih D G s3 (Sat.Ey O b b.stays m) (g.keep U λo e=>by rw[Fs] at e;injection e with e;subst e;exact MZ) (m.wt y) C q
  |brk=>refine df z ?_;intro D G q m;exact⟨D,G,q,Sat.Ey O b b.stays m⟩
  |ret v=>refine iD z ?_;intro x D G r q m;exact⟨x,D,G,r,q,Sat.Ey O b b.stays m⟩
  |cont=>exact z.elim
theorem Sat.oX(S:Sat K N au ρ B ak os H s)(b:s.heap.get? a=none):Off N au B ak a/\¬FP H s.heap a:=by
 refine⟨⟨λp j e=>?_,λo=>?_,dG S.h.stays b⟩,λf=>?_⟩
 ·subst e;erw[dY (S.h.ak p j),(_ _ _ k),bf k,(sl g)];rw[b] at g;injection g
 ·rcases o with rfl|⟨y,i,m,e⟩
  ·erw[ay S.f.ns,(_ d _),xH d,(o _ _ g _)];rw[b] at g;injection g
  ·erw[C8 (S.f.cell y i m),(l o c _ _ _ _ g _)];rw[e] at c;injection c with c;subst c;rw[b] at g;injection g
 ·erw[ay (S.h.rel.own f),(o g _)];rw[b] at g;injection g
theorem Sat.Ib(S:Sat K N au ρ B ak os H s)(o:Obj):Off N au B ak s.heap.objs.size/\¬FP H (s.heap.push o) s.heap.objs.size/\Sat K N au ρ B ak os H {s with heap:=s.heap.push o}:=by
 erw[aD (S.oX (none_at_size s.heap)),(a b),<-⟨a,λf=>b ((S.h.rel.qj (ju.of_keeps λb c e=>bB o e) (λ_ _=>id) _).mp f),S.push o⟩]
theorem SS.q9(O:tV sc N au A l ak n)(d:st≠.held)(j:N.lookup x=some (.loc,i))(b:∀x,gG e au x=pure x)(h1:SE af w K T n N au A l ak os m (eval e au))(h2:CT af w K T n N au A l ak os .seen mb (execs body au)):
  SS af w K T n N au A l ak os st (.q9 i m mb) (exec (.For (.Name x px) e body [] pos) au):=λρ B H s Q X S h=>by
 refine Ny b (pR d S (λC o=>h1 _ _ _ _ _ _ o h) λv s1 p=>bI λt r q g z=>?_);cases r with
 |ref a=>
  erw[cY (gh q),(c e u q),ay (eV g e),(y hl _),wpAny_pyIter_list hl,cA (g.Ib {cls:=.type "list_iterator",data:=.fields #[.ref a,.int 0 0]}),(F f k),<-D7 O d j (Nf.list O.e.ar.handled _ a c) F h2 c ρ p _ k ⟨0,⟨_,dw _ rfl,rfl,rfl⟩,rfl⟩ f e q]
 |_=>exact q.elim
theorem DF{lo h:Int}(O:tV sc N au A l ak n)(c:st≠.held)(d:N.lookup x=some (.loc,i))(h2:CT af w K T n N au A l ak os .seen mb (execs body au))(S:Sat K N au ρ B ak os H s)(hr:IsRange s.heap r lo h 1 t u t')(h0:0<=lo)(h1:lo<=1000)(h3:0<=h)(h4:h<=1000)(q:forL (λv ρ H Q=>bN af w K T n mb (upd ρ i v) H Q X) (λ_=>True) (gK lo h) ρ H Q):
  bP (model af w) A (pyIter (.ref r)) (λb g=>dV (model af w) A (.forLoop (.Name x px) b body [] au) (λr s'=>match r with
    | .ok f=>PF K N au B ak os Q f s'
    | .error e=>oz (model af w) A au (PX K N au B ak os l st X) e s') g) Ex s:=by
 have a:=small_one (S_ h0) (T8 h1) (S_ h3) (T8 h4);have k:nO lo h 1=((h-lo).toNat):=by
  rw[rangeSize_one];split
  ·exact(gT (Int.sub_nonneg_of_le (II ‹_›))).symm
  ·exact(congrArg gX (Int.toNat_of_nonpos (Int.sub_nonpos_of_le (fj.mp ‹_›)))).symm
 erw[wpAny_pyIter_range hr a,cA (S.Ib {cls:=.type "range_iterator",data:=.fields #[rawInt lo,rawInt (nO lo h 1),rawInt 1]}),(F f j),<-D7 O c d (Nf.range O.e.ar.handled _) F h2 (gK lo h) ρ H _ j ⟨lo,(h-lo).toNat,?_,?_⟩ f trivial q]
 ·erw[aj k,<-dw _ rfl]
 ·unfold gK;congr 2;exact aS (aw.mp (jY [(.sub (yp cN dX) cN,fY)] (dX,fY) rt (iN _))) (aw.mp (jY [(cN,.sub (yp dX fY) dX)] (cN,fY) rt (aG (gT (oE [(yn 0,cN)] (yn 0,.sub (yp dX cN) dX) rt gV)))))
theorem SS.Xe(o:TabsOk T K)(O:tV sc N au A l ak n)(b:st≠.held)(j:N.lookup x=some (.loc,i))(g:(r !=("__debug__":Str))=true)(hr:(sc.lookup r==some .globalImplicit)=true)(f:T.glob r=some .nC)(c:(starEach [hi] au).any (·.1)=false)(h1:Ad af w K T n N au A l ak os [PY] (spliced (backTo cp (starEach [hi] au))))(h2:CT af w K T n N au A l ak os .seen mb (execs body au)):
  SS af w K T n N au A l ak os st (.forR i none PY mb) (exec (.For (.Name x px) (.Call (.Name r np) [hi] [] cp) body [] pos) au):=λρ B H s Q X S h=>by
 erw[<-Ny (λ_=>rfl) (jm c (bc (yK O.e S g hr (o.nC _ f) ?_))),<-pR b S (λD u=>Ad.one h1 u h) λy s1 C=>(dg · λv x e r q p z=>?_)];subst e;erw[NO q];clear q;intro k m h0 Ql a M q;subst m;erw[bf r.inv,(t d)];subst d;erw[<-⟨kA,bc (call_range_1 ?_)⟩,<-DF O b j h2 (S:=(p.push _).same rfl) (Fm _ _ _ _ _ _ _) h0 Ql a M q]
theorem SS.WK{lo b:di}(G:TabsOk T K)(O:tV sc N au A l ak n)(c:st≠.held)(F:N.lookup x=some (.loc,i))(E:(r !=("__debug__":Str))=true)(hr:(sc.lookup r==some .globalImplicit)=true)(D:T.glob r=some .nC)(j:(starEach [lo,b] au).any (·.1)=false)(C:∀x p,lo≠.Starred x p)(z:∀x p,b≠.Starred x p)(h1:SE af w K T n N au A l ak os mlo (eval lo au))(f:SE af w K T n N au A l ak os PY (eval b au))(h2:CT af w K T n N au A l ak os .seen mb (execs body au)):
  SS af w K T n N au A l ak os st (.forR i (some mlo) PY mb) (exec (.For (.Name x px) (.Call (.Name r np) [lo,b] [] cp) body [] pos) au):=λρ B H s Q X S h=>by
 erw[<-Ny (λ_=>rfl) (jm j (bc (yK O.e S E hr (G.nC _ D) ?_))),<-qq (pR c S (λL g=>h1 _ _ _ _ _ _ g h) λV s1 H1=>bI λR o=>bI λa e1 v J Y=>?_) (kS C)];subst e1;refine qq (pR c J (λL g=>f _ _ _ _ _ _ g v) λU s2 H2=>bI λP m=>(NO · λk e2 h0 Ql d M q I W=>?_)) (kS z);subst e2;erw[yc,bf o.inv,(t y)];subst y;erw[bf m.inv,(t2 u)];subst u;erw[<-⟨kA,bc (call_range_2 ?_)⟩,<-DF O c F h2 (S:=(I.push _).same rfl) (Fm _ _ _ _ _ _ _) h0 Ql d M q]
noncomputable def Kt:List Value:=[.type "Exception",.type "BaseException",.type "object"]
structure zP(T:lu)(K:fq):Prop where
 exc:∀x C,T.glob x=some (.exc C)->nsIn K mainGlobals x=some (some (.ref C))/\excIn K C Kt "Exception.__new__"=true
theorem Sat.fun(S:Sat K N au ρ B ak os H s)(O:cU sc N au A l ak n):s.heap.FunFrames B l:=by
 have:∀b,(∀e∈b,e∈l)->s.heap.FunFrames B b:=λb=>by
  induction b with
  |nil=>intro _;trivial
  |cons e r m=>
   erw[(h),aD (O.frs e (h e kf)),(a C),ay C,(L i c),<-⟨a,?_,m λx u=>h x (fV u)⟩];rcases c with rfl|⟨p,w,rfl⟩
   ·erw[ay S.f.ns,(_ t _),iD t,(o y z g d _),<-⟨_,o,i,S.f.nU,g,λv q=>by rw[d] at q;injection q⟩]
   ·erw[dY (S.h.ak p w),(D _ k j),gR k,(y z d),bf j,(sl g),<-⟨_,_,i,D,g,λv q=>by rw[show({p.2 with slots:=sl}:Obj).data=p.2.data from rfl,d] at q;injection q⟩]
 exact this l λ_ h=>h
theorem SS.raise(L:zP T K)(O:tV sc N au A l ak n)(F:(x !=("__debug__":Str))=true)(y:(sc.lookup x==some .globalImplicit)=true)(D:T.glob x=some (.exc C))(m:(starEach [e] au).any (·.1)=false)(h1:Ad af w K T n N au A l ak os [me] (spliced (backTo VG (starEach [e] au)))):
  SS af w K T n N au A l ak os .any (.raise C me) (exec (.Raise (some (.Call (.Name x np) [e] [] VG)) none pos) au):=λρ B H s Q X S h=>by
 erw[aD (L.exc _ _ D),(nm I)];rw[arm_exec_Raise];refine az (bz ?_);show bO _ A (raiseStmt au (some (eval (.Call (.Name x np) [e] [] VG) au>>= λv=>standAt pos>>= λ_=>pure v)) none) _ _ s;have split:∀t:Sem Value,raiseStmt au (some t) none=(t>>= λv=>raiseStmt au (some (pure v)) none):=λt=>rfl;rw[split];erw[<-az (az (jm m (bc (yK O.e S F y (.inl nm) ?_)))),<-pR (by intro h;injection h) S (λB' P=>Ad.one h1 P h) λV s1 U=>(dg · λv x e r q a T1=>?_)];subst e;erw[vg a.h.st.top,(p c mg mb M),rW (((own_of_in a.h.st.Be M nm I).keeps a.h.stays).obj),(bm N' o Y bs OE u),rW u,(W sub ab J dd k0 k),CA k,(k1 k2 k3 k5 mN g G d j)];have R:Kt.contains (.type "BaseException")=true:=dc rfl;have f:Kt.contains (.type "Exception")=true:=dc rfl;erw[<-⟨⟨.machine,.inr rfl,λQ h=>wpAny_keeperOf_exc g h⟩,?_⟩,<-bc (wpAny_call_exc_subU o_ f o_ j g G d (λh' i b=>?_) ?_)]
 ·erw[<-az (bz (bj (bc ?_))),cY b.there,(t E z ht),<-wpAny_raiseStmt_made_sub (j.hasType R) O.e.ar.handled (wpAny_pure ⟨i,t,rfl,b.keeps _ _ g,E,?_⟩),<-⟨i,C,U,ρ,rfl,q.2,a.grow b.keeps a.h.gens a.h.os,.inr (.inr (sx.of b a.h.stays (a.fun O.e)))⟩]
 ·erw[aj sizeLine_eq];show 1<=16777216;decide
structure BG(T:lu):Prop where
 sub:∀C' C,T.sub C' C=true->C'=C
theorem QD(q:bO M A (execs body au) Q (λe s1=>bO M A (noteFrame e au) (λ_ s2=>bO M A (setFlight e none) (λ_ s3=>bO M A (handleBy e au [h]) Q Ex s3) Ex s2) Ex s1) s):bO M A (exec (.Try body [h] [] [] pos) au) Q Ex s:=by
 rw[arm_exec_Try];refine az (bz ?_);have e:tryStmt false (execs body au) [h] (execs [] au) [] au=(do
  match<-(execs body au).attempt with
  | .ok .next=>execs [] au
  | .ok f=>pure f
  | .error e=>
   noteFrame e au
   if[h].isEmpty then throw e
   setFlight e none
   if false&&[h].any (fun| .ExceptHandler none .. =>true|_=>false) then yV "internal:except-star-without-type"
   if false then runOwn (.starHandlers e e (<-newList []) [h] au) au (some e) else handleBy e au [h]):=rfl
 erw[aj e,<-az (BI (p_mono q (λf s1 h1=>?_) λx s1 h1=>?_))]
 ·induction f using Flow.casesOn with
  |next=>exact oq h1
  |_=>exact bj h1
 ·dsimp only;erw[<-az (p_mono h1 (λ_ s2 h2=>?_) λ_ _ z=>z),<-az (p_mono h2 (λ_ s3 h3=>h3) λ_ _ z=>z)]
theorem NI(O:cU sc N au A l ak n)(S:Sat K N au ρ B ak os H s)(f:(x !=("__debug__":Str))=true)(d:(sc.lookup x==some .globalImplicit)=true)(h:nsIn K mainGlobals x=some (some v))(q:Q v s):
  bP M A' (eval (.Name x pos) au) Q Ex s:=by
 erw[vg S.h.st.top,(p a m i T)];have b:au.kindOf x=some .globalImplicit:=by unfold pd;refine' aj O.names ?_;exact beq_iff_eq.mp d
 have c:(x==("__debug__"))=false:=by simpa[bne] using f
 have e:s.heap.Ns au.globals m:=by refine' aj O.glob ?_;exact T.g.keeps S.h.stays
 exact oB O.kind b (E4 e (mg_of S.h.st.Be T.g h) q) c
theorem SS.kL(XO:zP T K)(SO:BG T)(O:tV sc N au A l ak n)(hd:(x !=("__debug__":Str))=true)(R:(sc.lookup x==some .globalImplicit)=true)(Y:T.glob x=some (.exc C))(hc:isC v=true)(h1:CT af w K T n N au A l ak os .seen mb (execs body au)):
  SS af w K T n N au A l ak os st (.kL mb C v) (exec (.Try body [.ExceptHandler (some (.Name x np)) none [.Return (some (.Constant (Es v) ck cp)) rp] hp] [] [] pos) au):=λρ B H s Q X S h=>by
 erw[aD (XO.exc _ _ Y),(nm ex),<-QD (p_mono (h1 _ _ _ _ _ _ S h) (λ_ _ z=>z) λe s1=>(iR · λt C' u i e1 U D F=>?_)),aD U,(P8 q)];subst e1
 obtain rfl:=SO.sub _ _ P8
 have fr:=O.e.ar.frames;erw[bf O.s.first,(o hl)];have a:∀s2:Shared,Sat K N au i B ak os u s2->Way B l t (.ref C') (rawInt au.locals) s2.heap->bP (model af w) A (setFlight (.ref t) none) (λ_ s3=>bO (model af w) A (handleBy (.ref t) au [.ExceptHandler (some (.Name x np)) none [.Return (some (.Constant (Es v) ck cp)) rp] hp]) (PF K N au B ak os Q) (PX K N au B ak os l st X) s3) (PX K N au B ak os l st X) s2:=λs2 S2 F2=>by
  refine kZ none F2 λh3 y M=>bc ?_;have d:=S2.ups M y.1;erw[<-wpAny_handleBy_cons (codeAny_handlers_test (NI O.e d hd R nm ?_)) (by intro q;injection q),vg d.h.st.top,(p m mg I TR),rW (((own_of_in d.h.st.Be TR nm ex).keeps d.h.stays).obj),(bm N' G qn bs OE eK),rW eK,(sn sub ab col dd k0 P),CA P,(k1 k2 L k5 mN hC hN W TL),ay y.there,(ob Dv Sz),<-wpAny_excMatches_sub_self hC Dv Sz (TL.hasType (dc rfl)) (codeAny_handlers_suite ?_),kZ none y,(h4 F4 J)];have j:=d.ups J F4.1;rw[execs_cons,exec_Return_some];refine wpAny_bind (wpAny_bind (wpAny_standAt (wpAny_bind ?_)));have f:∀c g,cZ g.heap c v->Sat K N au i B ak os u g->PF K N au B ak os Q (.ret c) g:=λc g r S5=>⟨v,i,u,r,q i,S5⟩
  induction v using V.casesOn with
  |none=>exact wpAny_Constant_none (wpAny_pure (wpAny_pure (f _ _ .none j)))
  |bool b=>exact wpAny_Constant_bool (wpAny_pure (wpAny_pure (f _ _ (.bool b) j)))
  |int b=>exact wpAny_Constant_int (wpAny_pure (wpAny_pure (f _ _ (.int b _) (j.tok _))))
  |bytes b=>exact Constant_bytes (wpAny_pure (wpAny_pure (f _ _ (by simpa using cZ.bytes b.toArray _) (j.tok _))))
  |_=>exact Bool.noConfusion hc
 rcases F with F|F
 ·subst hl;exact bc (we fr O.s.own F λh' E k=>bc (a _ (D.ups k E.1) E))
 ·exact bc (tB O.s.own F (bc (a _ D F)))
theorem Bk:entryFor table "proto.unchain"=some Builtin.«proto.unchain»:=by first|exact nJ (by kernel_rfl)|exact nK (by kernel_rfl)
section
variable{nm q:Str}{C N:Addr}{bs bm:List Value}{OE:Bool}{sn:List Str}{sub:List Value}{ab:Bool}{col:Option Bool}{dd:Option Addr}{k0 k1 k2 k3 k5:Option Value}{newId:String}
theorem Ay(K:bm.contains (.type "BaseException")=true)(h:bP M A x (λv b=>∃e t,v=.ref e/\b.heap.get? C=some (excClassObj nm q C N bs bm OE sn sub ab col dd k0 k1 k2 k3 k5 newId)/\
   b.heap.get? e=some {cls:=.ref C,data:=.fields #[.ref t,.none,.none,.none,.bool false,.none]}/\bP M A (raiseNew (.ref e):Sem Flow) Q Ex b) Ex s):
  bP M A (raiseStmt au (some x) none) Q Ex s:=by
 have a:(iz C::bm).contains (.type "BaseException")=true:=by refine' aj List.contains_cons ?_;refine' aj K ?_;rw[Bool.or_true]
 erw[<-wpAny_bind (wpAny_mono h (λv b k=>?_) λ_ _ x=>x),f9 k,(e t j c f i)];subst j;rcases b with⟨hp,g,d,tk,os⟩
 repeat (first|with_reducible refine wpAny_loadPart_at f ?_|with_reducible refine wpAny_loadPart_at c ?_|(with_reducible refine wpAny_isSubtype_exc c ?_;refine' aj a ?_)|wp_step)
 exact i
end
theorem Cw(a:s.heap.get? h=some o)(b:o.data=.fields vs)(h2:vs[2]?=some .none)(q:R (.ok (.ret .none)) s):
  codeAny (model af w) A (.builtin "proto.unchain" ⟨[.ref e,.ref h,sl,.bool false],[]⟩) R s:=by
 erw[Fj Bk,<-wpAny_bind (wpAny_field a b h2 ?_),<-wpAny_pure q]
theorem xG(d:A.handled=some (.ref h))(n:h≠e)(c:s.heap.get? h=some o)(g:o.data=.fields vs)(h2:vs[2]?=some .none)(f:s.heap.get? e=some oe)(a:oe.data=.fields ve)(b:2<ve.size)(q:Ex (.ref e) {s with heap:=s.heap.update e (qZ (·.setIfInBounds 2 (.ref h)))}):
  bP (model af w) A (raiseNew (.ref e):Sem Flow) Q Ex s:=by
 erw[<-wpAny_bind (wpAny_handled ?_),aj d];dsimp only;erw[aj (if_pos (show(iz h !=iz e)=true from by simpa using n)),<-wpAny_bind (wpAny_holding (wpAny_runValue (Cw c g h2 ?_))),<-wpAny_bind (wpAny_setField f a b (wpAny_throw q))]
theorem GH(h:dV M (A.mark (some e)) (.handlers e [.ExceptHandler (some t) none [] pos] au) (λr b=>match r with
   | .ok .brk=>dV M (A.mark (some e)) (.handlers e [.ExceptHandler none none body pos] au) (λr a=>match r with
     | .ok f=>Q f a
     | .error x=>oz M A au Ex x a) b
   | .ok _=>False
   | .error x=>oz M A au Ex x b) s)(T:e≠byPass):
  bO M A (handleBy e au [.ExceptHandler (some t) none body pos]) Q Ex s:=by
 have Y:(some e)≠some byPass:=λx=>T (bV x);refine az (bK (wx (kR h (λr b c=>?_)) Y))
 induction r using Except.casesOn with
 |error x=>exact c
 |ok f=>
  induction f using Flow.casesOn with
  |brk=>
   erw[<-az (bj ?_),<-az (bK (wx (kR c (λr a d=>?_)) Y))]
   induction r using Except.casesOn with
   |error x=>exact d
   |ok f=>exact bj d
  |_=>exact c.elim
theorem Jw(h:∀a R:Dy->Shared->Prop,(∀b,dV M (A.mark (some e)) (.handlers e [.ExceptHandler none none body pos] au) R b->a (.ok .brk) b)->(∀x b,oz M A au Ex x b->a (.error x) b)->(∀f c,Q f c->R (.ok f) c)->(∀x c,oz M A au Ex x c->R (.error x) c)->
   dV M (A.mark (some e)) (.handlers e [.ExceptHandler (some t) none [] pos] au) a s)(T:e≠byPass):
  bO M A (handleBy e au [.ExceptHandler (some t) none body pos]) Q Ex s:=
 GH (h _ _ (λ_ h=>h) (λ_ _ h=>h) (λ_ _ h=>h) λ_ _ h=>h) T
section
variable{R:Dy->Shared->Prop}
theorem x8(h:bO (model af w) A (eval t au) (λc d=>bO (model af w) A (excMatches e c) (λb a=>R (.ok (if b then .brk else .next)) a) (kG (model af w) A au λx a=>R (.error x) a) d)
   (kG (model af w) A au λx d=>R (.error x) d) s):
  dV (model af w) A (.handlers e [.ExceptHandler (some t) none [] pos] au) R s:=by
 erw[gH rfl,<-az (tK ?_),<-az (bz (az (p_mono h (λc d g=>az (bz (az (p_mono g (λb a f=>bj (bj ?_)) λ_ _ x=>x)))) λ_ _ x=>x))),<-f]
theorem vM(h:bO (model af w) A (setFlight e none) (λ_ b=>bO (model af w) A (execs (aai::body) au) (λf c=>R (.ok f) c) (kG (model af w) A au λx c=>R (.error x) c) b) (kG (model af w) A au λx b=>R (.error x) b) s):
  dV (model af w) A (.handlers e [.ExceptHandler none none (aai::body) pos] au) R s:=by
 erw[gH rfl,<-az (tK ?_),<-az (bz (az (p_mono h (λ_ b d=>p_mono d (λf c a=>bj a) λ_ _ x=>x) λ_ _ x=>x)))]
end
theorem SS.iG{y:Str}{np yp hp pos W F E:Pos}(XO:zP T K)(SO:BG T)(O:tV sc N au A l ak n)(hs:st≠.held)(U:C≠Ax)(hd:(x !=("__debug__":Str))=true)(hx:(sc.lookup x==some .globalImplicit)=true)(hg:T.glob x=some (.exc C))(P:(y !=("__debug__":Str))=true)(J:(sc.lookup y==some .globalImplicit)=true)(L:T.glob y=some (.exc Ax))(f:msg.length<=1000)(h1:CT af w K T n N au A l ak os .seen mb (execs body au)):
  SS af w K T n N au A l ak os st (.iG mb C Ax) (exec (.Try body [.ExceptHandler (some (.Name x np)) none [.Raise (some (.Call (.Name y yp) [.Constant (.str msg) ck E] [] W)) none F] hp] [] [] pos) au):=λρ B H s Q X S h=>by
 erw[aD (XO.exc _ _ hg),(nm ex),aD (XO.exc _ _ L),(g QZ),<-QD (p_mono (h1 _ _ _ _ _ _ S h) (λ_ _ z=>z) λe s1=>(iR · λc C' H' eA e1 hq S1 Fw=>?_)),aD hq,(P8 q)];subst e1
 obtain rfl:=SO.sub _ _ P8
 have fr:=O.e.ar.frames;erw[bf O.s.first,(G hl)];have r:∀s2:Shared,Sat K N au eA B ak os H' s2->Way B l c (.ref C') (rawInt au.locals) s2.heap->bO (model af w) A (setFlight (.ref c) none) (λ_ s3=>bO (model af w) A (handleBy (.ref c) au [.ExceptHandler (some (.Name x np)) none [.Raise (some (.Call (.Name y yp) [.Constant (.str msg) ck E] [] W)) none F] hp]) (PF K N au B ak os Q) (PX K N au B ak os l st X) s3) (PX K N au B ak os l st X) s2:=λs2 S2 F2=>by
  refine bc (kZ none F2 λh3 F3 k3=>?_);have m:=S2.ups k3 F3.1;erw[<-Jw (λR1 R2 b1 b2 b3 b4=>x8 (bc (NI O.e m hd hx nm ?_))) (by intro q;injection q),vg m.h.st.top,(p I mg mb' TR),rW (((own_of_in m.h.st.Be TR nm ex).keeps m.h.stays).obj),(bm N' nm' qn bs OE iP),rW iP,(sn sub ab col dd k0 lj),CA lj,(k1 k2 k3' k5 mN hC hN hni TL),ay F3.there,(ob Dv Sz),<-bc (wpAny_excMatches_sub_self hC Dv Sz (TL.hasType (dc rfl)) (b1 _ (vM ?_))),<-bc (kZ none F3 λh4 F4 k4=>?_)];have d:=m.ups k4 F4.1;erw[wZ,<-az (bz ?_)];show bO _ _ (raiseStmt au (some (eval (.Call (.Name y yp) [.Constant (.str msg) ck E] [] W) au>>= λv=>standAt F>>= λ_=>pure v)) none) _ _ _;have split:∀t:Sem Value,raiseStmt au (some t) none=(t>>= λv=>raiseStmt au (some (pure v)) none):=λt=>rfl;rw[split];erw[<-az (az (jm rfl (bc (NI O.e d P J g ?_)))),<-bc (wpAny_items_cons (wpAny_Constant_str (wpAny_items_nil ?_))),rW (((own_of_in d.h.st.Be TR g QZ).keeps d.h.stays).obj),(bm2 N2 nm3 qn2 bs2 ab1 pE),rW pE,(sn2 aca ab2 acd dd2 j0 ua),CA ua,(j1 j2 j3 j5 mN2 Vh R Y j)];have M:Kt.contains (.type "Exception")=true:=dc rfl;erw[<-⟨⟨.machine,.inr rfl,λQ h=>wpAny_keeperOf_exc Vh h⟩,?_⟩,<-bc (wpAny_call_exc_subU o_ M o_ j Vh R Y (λh5 e2 f=>?_) (by erw[aj sizeLine_eq];show 1<=16777216;decide)),<-az (bz (bj (bc ?_))),cY (id f.there),(t i htn ht),PD F4.tr,(oe vs Tb oT ts V g2 g3 g4 g5 g6 g7 g8 g9 g10),ay g5,(cx c1 c2)]
  obtain rfl:=c2 (by intro q;injection q with q;exact U q)
  have ne:c≠e2:=λq=>by subst q;rw[f.new] at V;injection V
  refine Ay (j.hasType (dc rfl)) (wpAny_pure ⟨e2,t,rfl,f.keeps _ _ Vh,i,?_⟩);have S5:=d.grow (s':={s2 with heap:=h5,toks:=s2.toks+1}) f.keeps d.h.gens d.h.os;erw[xG (show(A.mark (some (.ref c))).handled=some (.ref c) from rfl) ne (f.keeps _ _ V) g3 c1 i rfl (by simp)];have M5:=sx.of f d.h.stays (d.fun O.e);have fresh:=M5.new;have upd:∀b o,h5.get? b=some o->b≠e2->(h5.update e2 (qZ (·.setIfInBounds 2 (.ref c)))).get? b=some o:=λb o a rL=>(hZ _ _ (aJ rL)).trans a;have D:h5.UpToSlots (h5.update e2 (qZ (·.setIfInBounds 2 (.ref c)))):=λb o a u=>⟨o.slots,upd b o a λq=>by replace q:=q.symm;subst q;rw[i] at a;injection a with a;subst a;exact u _ rfl⟩;have M6:sx B l e2 (.ref Ax) (h5.update e2 (qZ (·.setIfInBounds 2 (.ref c)))):=by
   refine⟨λb o a=>upd b o (M5.stays b o a) (λq=>by rw[q,fresh] at a;injection a),fresh,M5.Pl.of_keeps λb o a u=>?_,?_⟩
   ·exact⟨o,upd b o a (λq=>by replace q:=q.symm;subst q;rw[i] at a;injection a with a;subst a;exact u _ rfl),rfl⟩
   ·exact⟨_,_,fg _ i rfl,rfl,rfl,rfl,.ref c,rfl,λq=>absurd rfl q⟩
  have S6:=S5.ups D M6.stays;subst hl;exact bc (BV fr O.s.own M6 λh7 F7 k7=>b4 _ _ (p_mono (wg O.s ⟨e2,Ax,H',eA,rfl,q,S6.ups k7 F7.1,F7⟩) (λ_ _ z=>PX.to hs z) λ_ _ z=>PX.to hs z))
 rcases Fw with Fw|Fw
 ·subst hl;exact bc (we fr O.s.own Fw λh' F' k=>r _ (S1.ups k F'.1) F')
 ·exact bc (tB O.s.own Fw (r _ S1 Fw))
noncomputable def Ly(top:Bool):N9:=if top then .any else .seen
theorem Mv(top:Bool):Ly top≠.held:=by induction top using tW<;>intro h<;>cases h
theorem SS.bad:SS af w K T n N au A l ak os st .bad t:=λρ B H s Q X S h=>by
 exact h.elim
def Xz(af:eE)(w:bY)(K:fq)(T:lu)(n:Nat)(N:dJ)(sc:List (Str×dA))(au:mA)(A:Around)(l:List mA)(ak:List (Addr×Obj))(os:bL)(k:Nat):Prop:=
 ∀m:Mine.S,sizeOf m<k->∀top y,okS T Ax N sc top m y=true->SS af w K T n N au A l ak os (Ly top) m (exec (toS m y) au)
theorem uW(I:Xz af w K T n N sc au A l ak os k)(top:Bool):∀(ms:List Mine.S)(xs:List jD),sizeOf ms<k->y0 T Ax N sc top ms xs=true->CT af w K T n N au A l ak os (Ly top) ms (execs (y7 ms xs) au)
 |[],_,_,_=>CT.nil
 |m::ms,xs,hz,h=>
  have h:=ag.mp h;have a:=hz
  CT.cons (I m (gP [(zs (zp (zp (zn 1) av) aX),bT)] (zs av,bT) rt a) top _ h.1) (uW I top ms xs.tail (Gn a) h.2)
theorem Xu(c:TabsOk T K)(X:zP T K)(SO:BG T)(O:tV sc N au A l ak n):∀k,Xz af w K T n N sc au A l ak os k
 |0=>λm d=>absurd d (uh _)
 |k+1=>λm d top y h=>by
  have I:=Xu c X SO O k;have f:=Mv top
  induction m using S.casesOn with
  |expr m=>
   have h:=ag.mp h;exact SS.expr O.e f h.1 (tF _ _) (gu c O.e h.2)
  |bq i m=>
   have h:=ag.mp h;erw[ay (EG h.1),(B s r),<-SS.bq c O.e f s r h.2]
  |cD o F m=>
   have h:=ag.mp h;have h2:=ag.mp h.2;exact SS.cD f (tF _ _) (gu c O.e h2.2) (gu c O.e h2.1)
  |hX o i m=>
   have h:=ag.mp h;have h2:=ag.mp h.2;have h3:=ag.mp h2.2;exact SS.hX f (tF _ _) (gu c O.e h3.2) (gu c O.e h2.1) (gu c O.e h3.1)
  |AF J m=>
   have h:=ag.mp h;have h2:=ag.mp h.2;exact SS.AF O.e f h.1 h2.1 (gu c O.e h2.2)
  |pK i z m=>
   have h:=ag.mp h;have h2:=ag.mp h.2;erw[ay (EG h2.1),(B s r),<-SS.pK O.e f h.1 s r (gu c O.e h2.2)]
  |Cg o F z m=>
   have h:=ag.mp h;have h2:=ag.mp h.2;have h3:=ag.mp h2.2;exact SS.Cg f h.1 (gu c O.e h3.1) (gu c O.e h3.2)
  |dp t a b=>
   have h:=ag.mp h;have h2:=ag.mp h.2;rw[S.dp.sizeOf_spec] at d;exact SS.if f (FG c O.e h.1) (uW I top a _ (I8 d) h2.1) (uW I top b _ (MA d) h2.2)
  |o9 t b=>
   have h:=ag.mp h;rw[S.o9.sizeOf_spec] at d;exact SS.while O f (FG c O.e h.1) (uW I false b _ (Yu d) h.2)
  |q9 i e b=>
   have h:=ag.mp h;have h2:=ag.mp h.2;rw[S.q9.sizeOf_spec] at d;exact SS.q9 O f (vZ h.1) wk (gu c O.e h2.1) (uW I false b _ (MA d) h2.2)
  |forR i lo x b=>
   have h:=ag.mp h;have h2:=ag.mp h.2;have h3:=ag.mp h2.2;erw[cA (i9 h2.1),(p j g)];rw[S.forR.sizeOf_spec] at d
   induction lo using tU with
   |none=>exact SS.Xe c O f (vZ h.1) p j (wR g) (fX (ms:=[x])) (Cv c O.e (vU h3.1)) (uW I false b _ (V5 d) h3.2)
   |some lo=>
    have h4:=ag.mp h3.1;exact SS.WK c O f (vZ h.1) p j (wR g) (fX (ms:=[lo,x])) noStar noStar (gu c O.e h4.1) (gu c O.e h4.2) (uW I false b _ (V5 d) h3.2)
  |ret m=>
   induction m using tU with
   |none=>exact SS.abi
   |some m=>exact SS.ret f (gu c O.e h)
  |brk=>exact SS.brk
  |pass=>exact SS.pass
  |raise C m=>
   have h:=ag.mp h;have h2:=ag.mp h.2;erw[cA (i9 h2.1),(p j g)];have G:=h.1;subst G;exact SS.raise X O p j (wC g) (fX (ms:=[m])) (Cv c O.e (vU h2.2))
  |kL b C v=>
   have h:=ag.mp h;have h2:=ag.mp h.2;erw[cA (i9 h.1),(j g u)];rw[S.kL.sizeOf_spec] at d;exact SS.kL X SO O j g (wC u) h2.1 (uW I false b _ (Gp d) h2.2)
  |iG b C L=>
   have h:=ag.mp h;have h1:=ag.mp h.1;have h2:=ag.mp h.2;have h3:=ag.mp h2.2;have h4:=ag.mp h3.2;have H:=beq_iff_eq.mp h1.2;subst H;erw[cA (i9 h2.1),(j g u),cA (i9 h3.1),(E D q)];rw[S.iG.sizeOf_spec] at d;exact SS.iG X SO O f (by simpa using h1.1) j g (wC u) E D (wC q) (of_decide_eq_true h4.1) (uW I false b _ (Gp d) h4.2)
  |bad=>exact SS.bad
theorem OI(b:TabsOk T K)(X:zP T K)(SO:BG T)(O:tV sc N au A l ak n)(a:y7 ms es=es)(h:y0 T Ax N sc true ms es=true):CT af w K T n N au A l ak os .any ms (execs es au):=by
 have:=uW (Xu (af:=af) (w:=w) (os:=os) b X SO O (sizeOf ms+1)) true ms es (gZ _) h;rw[a] at this;exact this
theorem FC:∀{m:Str->Option Value},x∉binds.map (·.1)->bindL kd binds m x=m x:=by
 induction binds with
 |nil=>intros;rfl
 |cons b r i=>
  erw[(m h),aj (i (λq=>h (JO _ q)))];have:x≠b.1:=λq=>h (q▸yb)
  split
  ·exact if_neg this
  ·rfl
theorem Jr:∀{m:Str->Option Value},(binds.map (·.1)).Nodup->(x,v)∈binds->kd x=some .local->bindL kd binds m x=some v:=by
 induction binds with
 |nil=>exact λ_ h=>nomatch h
 |cons b r i=>
  intro m c hm a;unfold bindL;erw[aD (gg.mp c),(h1 h2)];rcases bE.mp hm with e|hm
  ·subst e;rewrite[FC h1,if_pos a,if_pos rfl];rfl
  ·exact i h2 hm a
theorem Gs:∀{m:Str->Option Value},x∉binds.map (·.1)->bindC kd binds m x=m x:=by
 induction binds with
 |nil=>intros;rfl
 |cons b r i=>
  erw[(m h),aj (i (λq=>h (JO _ q)))];have:x≠b.1:=λq=>h (q▸yb)
  split
  ·rfl
  ·exact if_neg this
theorem JI:∀{m:Str->Option Value},(binds.map (·.1)).Nodup->(x,v)∈binds->kd x=some .cell->bindC kd binds m x=some v:=by
 induction binds with
 |nil=>exact λ_ h=>nomatch h
 |cons b r i=>
  intro m c hm a;unfold bindC;erw[aD (gg.mp c),(h1 h2)];rcases bE.mp hm with e|hm
  ·subst e;rewrite[Gs h1,if_neg (by erw[aj a,(q)];cases q),if_pos rfl];rfl
  ·exact i h2 hm a
structure VH(K:fq)(f:Addr)(body:List jD)(scope:Scope)(xs:List Str)(ext:List Value):Prop where
 ex:∃o d,K.lookup f=some o/\o.data=.func d/\d.body=.stmts body/\d.scope=scope/\d.globals=mainGlobals/\d.closure=[]/\d.builtins=nG/\codeIn K d.code d.qualname=true/\
  ∀(s:Shared)(aQ:List Value),K.In s.heap->aQ.length+ext.length=xs.length->BindsTo s d ⟨aQ,[]⟩ (xs.zip (aQ++ext))
noncomputable def Ul(scope:Scope)(xs:List Str):Bool:=!scope.isCoroutine&&!scope.isGenerator&&scope.kind== .function&&(xs.all λx=>scope.names.lookup x==some .local||scope.names.lookup x==some .cell) &&decide xs.Nodup
noncomputable def argsOk(N:dJ)(xs:List Str):Bool:=N.all λp=>(decide (p.2.2<xs.length) ==false||xs[p.2.2]?==some p.1) &&(match p.2.1 with| .ro=>false|_=>true)
noncomputable def sC(vs:List V):Loc:=λi=>vs[i]?
theorem Pj(h:bO (model af w) (A.deeper au) (execs body au) (λf s'=>R (.ok (.ret (match f with| .ret v=>v|_=>.none))) s')
   (λe s'=>bO (model af w) (A.deeper au) (leaving au e) (λ_ C=>R (.error e) C) (λb C=>R (.error b) C) s') s):
  dV (model af w) A (.func body au) R s:=by
 erw[gH rfl,<-az (Iy (az (pD (p_mono h (λf s' a=>?_) λ_ _ a=>a))))]
 induction f using Flow.casesOn<;>exact bj a
theorem xl(u:A.depth<recursionLimit)(r:s.heap.get? a=some o)(f:o.data=.func fd)(p:fd.scope=scope)(F:fd.globals=mainGlobals)(J:fd.closure=[])(i:fd.builtins=nG)(L:scope.isCoroutine=false)(T:scope.isGenerator=false)(Y:fd.body=.stmts body)(g:s.heap.CodeRec fd.code fd.qualname)(h:bP (model af w) A.in1 (bindArgs fd args) (λb n=>
   bP (model af w) A.in1 (newFunctionEnv scope mainGlobals [] b (fd.qualname++ ".<locals>.") (some a) fd.code none nG)
    (λau k=>k.heap.NoLimit/\dV (model af w) A (.func body au) R k) (λe s'=>R (.error e) s') n) (λe s'=>R (.error e) s') s):
  dV (model af w) A (.call (.ref a) args) R s:=by
 erw[gH rfl];show bO _ A.in1 (callAny (.ref a) args) _ _ s;erw[<-bc (wpAny_bind (wpAny_load r ?_)),iR g,(c y v x l Q d q),aj f];show bP _ _ (callFunction a fd args) _ _ _;unfold callFunction;erw[aj p,aj F,aj J,aj i,aj L,aj T,aj Y,aj l];rw[l] at h;refine wpAny_bind (wpAny_field Q d q (wpAny_bind (wpAny_pure ?_)));exact wpAny_bind (wpAny_mono h (λb n t=>wpAny_bind (wpAny_mono t (λau k m=>wpAny_bind (wpAny_enterFrame m.1 u
  (wpAny_pure (Hd rfl m.2)))) λ_ _ j=>j)) λ_ _ j=>j)
theorem IA:∀{xs:List Str} {a:List Value} {i:Nat} {x:Str} {v:Value},xs[i]?=some x->a[i]?=some v->(x,v)∈xs.zip a
 |_::_,_::_,0,_,_,h1,h2=>by simp at h1 h2;subst h1;subst h2;exact kf
 |_::_,_::_,i+1,_,_,h1,h2=>fV (IA (by simpa using h1) (by simpa using h2))
 |[],_,_,_,_,h1,_=>by simp at h1
 |_::_,[],_,_,_,_,h2=>by simp at h2
theorem CY:∀{xs:List Str} {a:List Value},a.length=xs.length->(xs.zip a).map (·.1)=xs
 |[],_,_=>rfl
 |x::xs,v::a,h=>by simp at h;simp[CY h]
 |x::xs,[],h=>by simp at h
theorem Bo(TO:TabsOk T K)(XO:zP T K)(SO:BG T)(FI:VH K f body scope xs ext)(hx:∀h,bU h ext xext)(t:Ul scope xs=true)(hN:DW N scope.names=true)(hA:argsOk N xs=true)(hl:args.length+xext.length=xs.length)(Y:y7 ms body=body)(ck:y0 T Ax N scope.names true ms body=true)(h:bN af w K T n ms (sC (args++xext)) H (λfl _ D=>match fl with| .ret v=>Q v D| .next=>Q .none D| .brk=>False) X):aZ af w K (n+1) f args H Q X:=by
 erw[(B ak os l A s aQ ar fi S rv),Tf FI.ex,(o d hf N8 hbo aa4 Fe J0 hbl hcd hb)];unfold Ul at t;erw[aD (ag.mp t),(t TA),aD (ag.mp t),(t hkk),aD (ag.mp t),(t YU),aD (ag.mp t),(Lx Te)];have TA:=of_decide_eq_true TA;have YU:scope.kind=.function:=by simpa using YU
 have M:=S.st.Be.keeps S.stays;erw[vg S.st.top,(p loose mg mb TR)];have TR':=TR.keeps S.stays;have d5:aQ.length+ext.length=xs.length:=by refine' aj rv.length ?_;refine' aj ((hx B).length) ?_;exact hl
 have u:(aQ++ext).length=xs.length:=by refine' aj ah ?_;exact d5
 have rva:=(rv.mono (dN.of_stays S.stays)).append (hx _);have X9:=ar.depth;have aaq:=ar.units;erw[<-xl (show A.depth<1000 by exact fp [(zp av aX,zn 900)] (zs av,zn 1000) rt X9) (M _ _ hf) N8 aa4 Fe J0 hbl (by simpa using Lx) (by simpa using Te) hbo (codeRec_of M hcd) (hb s aQ M d5 _ _ _ _ ?_),<-wpAny_newFunctionEnv_cells YU (λx hx=>?_) λau P U x=>?_]
 ·have:x.1∈xs:=by refine' c_ (CY u) ?_;exact List.mem_map_of_mem hx
  rcases nE.mp (cJ.mp hkk _ this) with q|q
  ·exact .inl (by simpa using q)
  ·have q':scope.names.lookup x.1=some .cell:=by simpa using q
   exact .inr ⟨q',cellsFrom_some _ _ _ (.inl q')⟩
 have Mr:=x.toInCall.keep;erw[df x.done,(cu tk V _)];have eN:au.scope=scope:=by refine' aj P ?_;rfl
 have eL:au.locals=s.heap.objs.size:=by refine' aj P ?_;rfl
 have R:au.frame=some au.locals:=by refine' aj P ?_;rfl
 have eC:au.cells=cellsFrom (s.heap.objs.size+1) scope.names []:=by refine' aj P ?_;rfl
 have eG:au.globals=mainGlobals:=by refine' aj P ?_;rfl
 have eB:au.builtins=nG:=by refine' aj P ?_;rfl
 have hg:U.gens=#[]:=by refine' aj V ?_;exact S.gens
 have E9:U.os=os:=by refine' aj V ?_;exact S.os
 have SH:=S.grow Mr hg E9;have JZ:=O4.of hN;have fpo:∀a,s.heap.objs.size<=a->¬FP H U.heap a:=λa ha q=>by
  have q':=(S.rel.qj (ju.of_keeps Mr) (λ_ _=>id) a).mp q;erw[ay (S.rel.own q'),(o Y _),<-iH _ (a_ (eQ Y) ha)]
 have Yh:∀a,s.heap.objs.size<=a->B.get? a=none:=λa ha=>by
  cases q:B.get? a with
  |none=>rfl
  |some o=>exact absurd (a_ (eQ (S.stays a o q)) ha) (iH _)
 have Yy:∀a,s.heap.objs.size<=a->∀p∈ak,p.1≠a:=λa ha p hp q=>by
  erw[dY (S.ak p hp),(_ _ _ lj),bf lj,(sl e)];rw[q] at e;exact absurd (a_ (eQ e) ha) (iH _)
 have Y8:∀y k i,(y,k,i)∈N->au.kindOf y=some (kdOf k):=λy k i m=>by
  have:=(JZ.kd _ _ _ m).1;unfold pd;erw[aj eN,<-this]
 have arg:∀y k i v,(y,k,i)∈N->sC (args++xext) i=some v->∃g,(y,g)∈xs.zip (aQ++ext)/\cZ U.heap g v:=λy k i v m e=>by
  erw[ay (rva.get e),(g e1 r)];have lt:i<xs.length:=by refine' c_ u ?_;exact(jk.mp e1).1
  have:=(ag.mp (cJ.mp hA _ m)).1;rcases nE.mp this with q|q
  ·simp[lt] at q
  ·exact⟨g,IA (by simpa using q) e1,r.mono (ju.tup (ju.of_keeps Mr) λ_ _ _=>id)⟩
 have fst:=CY u;have F:D6 N au (sC (args++xext)) B ak H U.heap:=by
  refine⟨⟨_,x.toInCall.ns,λy k i m hk v e=>?_⟩,Yh _ (aa eL.symm),fpo _ (aa eL.symm),λp hp=>?_,λy i m=>?_,λy z i j c my mz cy cz=>?_,λy i m=>?_⟩
  ·erw[ay (arg y k i v m e),(g hm r),<-⟨g,Jr (aj fst TA) hm (aj (Y8 _ _ _ m) (aj hk rfl)),r⟩]
  ·exact Yy _ (aa eL.symm) p hp
  ·have kc:=Y8 _ _ _ m;have lc:scope.names.lookup y=some .cell:=by unfold pd at kc;rw[eN] at kc;exact kc
   have hs:(au.cells.lookup y).isSome=true:=by refine' aj eC ?_;exact cellsFrom_some _ _ _ (.inl lc)
   erw[bf (js.mp hs),(c hc)];have ab:=x.above y c (mem_of_lookup hc);rw[eL] at ab;have J:=gk ab;erw[ay (x.cell y c hc),(o Y hd),<-⟨c,o,hc,by erw[aj eL,<-ID ab],Yh c J,fpo c J,Yy c J,Y,_,hd,λv e=>?_⟩,ay (arg y _ i v m e),(g hm r),<-⟨g,JI (aj fst TA) hm kc,r⟩]
  ·exact name_of_addr x.apart (mem_of_lookup cy) (mem_of_lookup cz)
  ·have:=(ag.mp (cJ.mp hA _ m)).2;injection this
 have UD:∀y k i,(y,k,i)∈N->k≠.ro:=λy k i m q=>by
  replace q:=q.symm;subst q;have:=(ag.mp (cJ.mp hA _ m)).2;injection this
 have O:tV scope.names N au (A.deeper au) (au::l) ak n:=by
  refine⟨⟨⟨by erw[aj eN,<-YU],by erw[aj eN];rfl,JZ,eG,eB,⟨ar.handled,?_,?_,?_⟩,⟨_,R⟩,(by intro q;injection q),λe rD=>?_⟩,R,⟨l,rfl⟩⟩,UD⟩
  ·show A.frames.map (au:: ·)=_;erw[aj ar.frames];rfl
  ·show A.depth+1+4*n+2<=900;exact fp [(zp av (zm 4 (zs aX)),zn 900)] (zk (zp (zs av) (zm 4 aX)) 2,zn 900) rt X9
  ·show A.units+3+100*n+90<=9000;exact fp [(zp av (zm 100 (zs aX)),zn 9000)] (zk (zp (zk av 3) (zm 100 aX)) 90,zn 9000) rt aaq
  ·rcases bE.mp rD with rfl|rD
   ·exact⟨(by erw[aj eN,aj YU,(q)];injection q),_,R,.inl rfl⟩
   ·erw[aD (fi e rD),(a pE),ay pE,(L b c),<-⟨a,L,b,.inr c⟩]
 refine⟨(TR'.nolimit.keeps Mr),Pj (p_mono (OI TO XO SO O Y ck _ _ _ _ _ _ ⟨SH,F⟩ h) (λfl s2 z=>?_) λe s2 z=>?_)⟩
 ·induction fl using Flow.casesOn with
  |next=>refine df z ?_;intro eA D q G;exact⟨.none,D,.none,q,G.h⟩
  |brk=>refine df z ?_;intro eA D q G;exact q.elim
  |ret v=>refine iD z ?_;intro xv eA D r q G;exact⟨xv,D,r,q,G.h⟩
  |cont=>exact z.elim
 ·erw[iR z,(ea C D eA e1 xq G F')];subst e1;have fr:=O.e.ar.frames;have I:∀E,Way B l ea (.ref C) .none E->s2.heap.UpToSlots E->(∃ea' C,∃_:Unit,∃D,iz ea=.ref ea'/\X C D/\hJ K B ak os D {s2 with heap:=E}/\Way B l ea' (.ref C) .none E):=λE W k=>
   ⟨ea,C,(),D,rfl,xq,G.h.ups k W.stays G.h.gens G.h.os,W⟩
  rcases F' with F'|F'|F'
  ·exact bc (JE fr R F' λE W k=>I E W k)
  ·exact bc (FE R F' λE W k=>I E W k)
  ·exact bc (FH fr R F' λE W k=>I E W k)
end
noncomputable def nl(l:List Str):dJ:=l.foldr (λx f i=>(x,Kd.loc,i)::f (i+1)) (λ_=>[]) 0
noncomputable abbrev aN:E:=.loc 0
noncomputable abbrev bA:E:=.loc 1
noncomputable abbrev dC:E:=.loc 2
noncomputable abbrev dQ:E:=.loc 3
noncomputable abbrev fG:E:=.loc 4
noncomputable abbrev fJ:E:=.loc 5
noncomputable abbrev jW:E:=.loc 6
noncomputable abbrev A0:E:=.loc 7
noncomputable abbrev Dt:E:=.loc 8
noncomputable abbrev xe:E:=.loc 9
noncomputable abbrev Ez:E:=.loc 10
noncomputable abbrev Bs:E:=.loc 11
noncomputable abbrev I9:E:=.loc 12
noncomputable abbrev O8:E:=.loc 13
noncomputable abbrev ek(k:Int):E:=.cst (.int k)
noncomputable abbrev bD(f:Nat)(l:List E):E:=.call (.fn f) l
noncomputable abbrev dj(e:E):S:=.ret (some e)
abbrev bw(x:E)(k:Int):E:=.sub x (ek k)
def tf:dJ:=nl ["n","most","out"]
abbrev mQ:List S:=[.dp (.or [(.cmp .Lt aN (ek 0)),(.cmp .Gt aN bA)]) [.raise 80 (.text [aN,bA])] [],.bq 2 (.call .c9 []),.o9 (.cmp .GtE aN (ek 128)) [.expr (.bp dC 0 [(.bin .BitOr (.bin .BitAnd aN (ek 127)) (ek 128))]),.pK 0 .RShift (ek 7)],.expr (.bp dC 0 [aN]),dj (.call .bytes [dC])]
def uU:dJ:=nl ["data","at","octets","most","n","shift","turn","octet"]
abbrev oO:List S:=[.dp (.cmp .Lt bA (ek 0)) [.raise 68 (.text [bA])] [],.bq 4 (ek 0),.bq 5 (ek 0),.forR 6 none dC [.dp (.cmp .GtE bA (.call .len [aN])) [.bad] [],.bq 7 (.sub aN bA),.pK 1 .Add (ek 1),.pK 4 .BitOr (.bin .LShift (.bin .BitAnd A0 (ek 127)) fJ),.dp (.cmp .Lt A0 (ek 128)) [.dp (.cmp .Gt fG dQ) [.bad] [],dj (.tup [fG,bA])] [],.pK 5 .Add (ek 7)],.raise 56 (.text [dC])]
def wm:dJ:=nl ["n"]
abbrev qd:List S:=[.dp (.and [(.cmp .GtE aN (ek 0)),(.cmp .Lt aN (ek 128))]) [dj (.call .bytes [(.lst [aN])])] [],dj (bD 137 [aN,(ek 18446744073709551615)])]
def uB:dJ:=nl ["data","at"]
abbrev oP:List S:=[.dp (.and [(.cmp .GtE bA (ek 0)),(.cmp .Lt bA (.call .len [aN])),(.cmp .Lt (.sub aN bA) (ek 128))]) [dj (.tup [(.sub aN bA),(.bin .Add bA (ek 1))])] [],dj (bD 144 [aN,bA,(ek 10),(ek 18446744073709551615)])]
def sj:dJ:=nl ["n"]
abbrev nk:List S:=[.dp (.and [(.cmp .GtE aN (ek 0)),(.cmp .Lt aN (ek 128))]) [dj (.call .bytes [(.lst [aN])])] [],dj (bD 137 [aN,(ek 4294967295)])]
def qN:dJ:=nl ["data","at"]
abbrev lI:List S:=[.dp (.and [(.cmp .GtE bA (ek 0)),(.cmp .Lt bA (.call .len [aN])),(.cmp .Lt (.sub aN bA) (ek 128))]) [dj (.tup [(.sub aN bA),(.bin .Add bA (ek 1))])] [],dj (bD 144 [aN,bA,(ek 5),(ek 4294967295)])]
def qF:dJ:=nl ["n","count"]
abbrev lK:List S:=[.dp (.or [(.cmp .Lt aN (ek 0)),(.cmp .Gt aN (ek 18446744073709551615))]) [.raise 80 (.text [aN,(ek 18446744073709551615)])] [],.bq 1 (ek 1),.o9 (.cmp .GtE aN (ek 128)) [.pK 0 .RShift (ek 7),.pK 1 .Add (ek 1)],dj bA]
def qY:dJ:=nl ["data","at","count"]
abbrev lD:List S:=[.AF [2,1] (bD 172 [aN,bA]),.dp (.cmp .Gt (.bin .Add bA dC) (.call .len [aN])) [.bad] [],dj (.tup [(.call .bytes [(.A4 aN (some bA) (some (.bin .Add bA dC)))]),(.bin .Add bA dC)])]
def oK:dJ:=nl ["self","data","at"]
abbrev jd:List S:=[.dp (.or [(.cmp .Lt dC (ek 0)),(.cmp .Gt dC (.call .len [bA]))]) [.bad] [],.cD aN 3 bA,.cD aN 5 dC]
def uv:dJ:=nl ["self"]
abbrev oN:List S:=[dj (.bin .Sub (.call .len [(.attr aN 3)]) (.attr aN 5))]
def qB:dJ:=nl ["self","at","n"]
abbrev lL:List S:=[.bq 1 (.attr aN 5),.dp (.and [(.cmp .Lt bA (.call .len [(.attr aN 3)])),(.cmp .Lt (.sub (.attr aN 3) bA) (ek 128))]) [.cD aN 5 (.bin .Add bA (ek 1)),dj (.sub (.attr aN 3) bA)] [],.AF [2,1] (bD 158 [(.attr aN 3),bA]),.cD aN 5 bA,dj dC]
def n_:dJ:=nl ["self","b","at"]
abbrev jS:List S:=[.AF [1,2] (bD 186 [(.attr aN 3),(.attr aN 5)]),.cD aN 5 dC,dj bA]
def ux:dJ:=nl ["self","n"]
abbrev o5:List S:=[.dp (.cmp .GtE (.attr aN 5) (.call .len [(.attr aN 3)])) [.raise 68 (.text [])] [],.bq 1 (.sub (.attr aN 3) (.attr aN 5)),.dp (.cmp .Gt bA (ek 1)) [.raise 56 (.text [bA])] [],.Cg aN 5 .Add (ek 1),dj (.cmp .Eq bA (ek 1))]
def uF:dJ:=nl ["self"]
abbrev oF:List S:=[.dp (.cmp .Lt (.attr aN 5) (.call .len [(.attr aN 3)])) [.bad] []]
def yU:dJ:=nl ["self"]
abbrev rS:List S:=[.cD aN 4 (.call .c9 [])]
def uI:dJ:=nl ["self","n"]
abbrev oR:List S:=[.dp (.and [(.cmp .GtE bA (ek 0)),(.cmp .Lt bA (ek 128))]) [.expr (.bp (.attr aN 4) 0 [bA])] [.expr (.bp (.attr aN 4) 2 [(bD 151 [bA])])]]
def qK:dJ:=nl ["self","b"]
abbrev lJ:List S:=[.expr (.bp (.attr aN 4) 2 [(bD 165 [(.call .len [bA])])]),.expr (.bp (.attr aN 4) 2 [bA])]
def yd:dJ:=nl ["self","b"]
abbrev sM:List S:=[.dp bA [.expr (.bp (.attr aN 4) 0 [(ek 1)])] [.expr (.bp (.attr aN 4) 0 [(ek 0)])]]
def yP:dJ:=nl ["self"]
abbrev s6:List S:=[dj (.call .bytes [(.attr aN 4)])]
def Eb:dJ:=nl ["ids","out","nid"]
abbrev Am:List S:=[.bq 1 (.lst []),.q9 2 (.call .sorted [aN]) [.dp (.or [(.not bA),(.cmp .NotEq (.sub bA (ek (-1))) dC)]) [.expr (.bp bA 0 [dC])] []],dj bA]
def wz:dJ:=nl ["cursor","count"]
abbrev qr:List S:=[.bq 1 (.bp aN 4 []),.dp (.cmp .Gt bA (.bp aN 8 [])) [.bad] [],dj bA]
def vR:dJ:=nl ["self","term","index","kind","data"]
abbrev pU:List S:=[.cD aN 0 bA,.cD aN 1 dC,.cD aN 2 dQ,.cD aN 3 fG]
def yI:dJ:=nl ["self"]
abbrev sO:List S:=[dj (.tup [(.attr aN 0),(.attr aN 1),(.attr aN 2),(.attr aN 3)])]
def wh:dJ:=nl ["self"]
abbrev pM:List S:=[dj (.call (.cls 407 376) [(.attr aN 0),(.attr aN 1),(.attr aN 2),(.attr aN 3)])]
def qD:dJ:=nl ["self"]
abbrev lE:List S:=[dj (.call .len [(.attr aN 3)])]
def wc:dJ:=nl ["self","length","head"]
abbrev pZ:List S:=[.bq 1 (.call .len [(.attr aN 3)]),.bq 2 (.bin .Add (.bin .Add (bD 179 [(.attr aN 0)]) (bD 179 [(.attr aN 1)])) (bD 179 [(.attr aN 2)])),dj (.bin .Add (.bin .Add dC (bD 179 [bA])) bA)]
def te:dJ:=nl ["entry","sink"]
abbrev nq:List S:=[.bq 1 (.call (.cls 344 285) []),.expr (.bp bA 4 [(.attr aN 0)]),.expr (.bp bA 4 [(.attr aN 1)]),.expr (.bp bA 4 [(.attr aN 2)]),.expr (.bp bA 5 [(.attr aN 3)]),dj (.bp bA 7 [])]
def sQ:dJ:=nl ["data","cursor","term","index","kind","body"]
abbrev ny:List S:=[.bq 1 (.call (.cls 267 201) [aN]),.bq 2 (.bp bA 4 []),.bq 3 (.bp bA 4 []),.bq 4 (.bp bA 4 []),.dp (.and [(.cmp .NotEq fG (ek 0)),(.cmp .NotEq fG (ek 2))]) [.raise 56 (.text [fG])] [],.bq 5 (.bp bA 5 []),.expr (.bp bA 7 []),dj (.call (.cls 407 376) [dC,dQ,fG,fJ])]
def v_:dJ:=nl ["entries","n","total","kept","entry"]
abbrev qf:List S:=[.bq 2 (ek 0),.bq 3 (.lst []),.q9 4 aN [.pK 2 .Add (.bp fG 12 []),.dp (.and [dQ,(.cmp .Gt dC bA)]) [.brk] [],.expr (.bp dQ 0 [fG])],dj dQ]
def ph:dJ:=nl ["self","voters","learners","outgoing","learners_next","auto_leave"]
abbrev kj:List S:=[.cD aN 6 (bD 355 [bA]),.cD aN 7 (bD 355 [dC]),.cD aN 8 (bD 355 [dQ]),.cD aN 9 (bD 355 [fG]),.cD aN 10 fJ]
def qH:dJ:=nl ["self"]
abbrev lO:List S:=[dj (.tup [(.call .tuple [(.attr aN 6)]),(.call .tuple [(.attr aN 7)]),(.call .tuple [(.attr aN 8)]),(.call .tuple [(.attr aN 9)]),(.attr aN 10)])]
def pg:dJ:=nl ["self"]
abbrev ko:List S:=[dj (.call (.cls 463 446) [(.attr aN 6),(.attr aN 7),(.attr aN 8),(.attr aN 9),(.attr aN 10)])]
def BY:dJ:=nl ["sink","ids","nid"]
abbrev xK:List S:=[.expr (.bp aN 4 [(.call .len [bA])]),.q9 2 bA [.expr (.bp aN 4 [dC])]]
def zI:dJ:=nl ["cursor","out","_","nid"]
abbrev vm:List S:=[.bq 1 (.lst []),.forR 2 none (bD 362 [aN]) [.bq 3 (.bp aN 4 []),.dp (.and [bA,(.cmp .LtE dQ (.sub bA (ek (-1))))]) [.bad] [],.expr (.bp bA 0 [dQ])],dj bA]
def uL:dJ:=nl ["conf","sink"]
abbrev oS:List S:=[.bq 1 (.call (.cls 344 285) []),.expr (bD 474 [bA,(.attr aN 6)]),.expr (bD 474 [bA,(.attr aN 7)]),.expr (bD 474 [bA,(.attr aN 8)]),.expr (bD 474 [bA,(.attr aN 9)]),.expr (.bp bA 6 [(.attr aN 10)]),dj (.bp bA 7 [])]
def uS:dJ:=nl ["data","cursor","voters","learners","outgoing","learners_next","auto_leave"]
abbrev oD:List S:=[.bq 1 (.call (.cls 267 201) [aN]),.bq 2 (bD 481 [bA]),.bq 3 (bD 481 [bA]),.bq 4 (bD 481 [bA]),.bq 5 (bD 481 [bA]),.bq 6 (.bp bA 6 []),.expr (.bp bA 7 []),dj (.call (.cls 463 446) [dC,dQ,fG,fJ,jW])]
def qC:dJ:=nl ["self","index","term","conf","data"]
abbrev lG:List S:=[.cD aN 1 bA,.cD aN 0 dC,.cD aN 11 dQ,.cD aN 3 fG]
def sF:dJ:=nl ["self"]
abbrev mP:List S:=[dj (.tup [(.attr aN 1),(.attr aN 0),(.bp (.attr aN 11) 9 []),(.attr aN 3)])]
def qu:dJ:=nl ["self"]
abbrev lT:List S:=[dj (.call (.cls 533 509) [(.attr aN 1),(.attr aN 0),(.bp (.attr aN 11) 10 []),(.attr aN 3)])]
def oo:dJ:=nl ["snapshot","sink"]
abbrev jO:List S:=[.bq 1 (.call (.cls 344 285) []),.expr (.bp bA 4 [(.attr aN 1)]),.expr (.bp bA 4 [(.attr aN 0)]),.expr (.bp bA 5 [(bD 488 [(.attr aN 11)])]),.expr (.bp bA 5 [(.attr aN 3)]),dj (.bp bA 7 [])]
def nW:dJ:=nl ["data","cursor","index","term","conf","body"]
abbrev jT:List S:=[.bq 1 (.call (.cls 267 201) [aN]),.bq 2 (.bp bA 4 []),.bq 3 (.bp bA 4 []),.bq 4 (bD 495 [(.bp bA 5 [])]),.bq 5 (.bp bA 5 []),.expr (.bp bA 7 []),dj (.call (.cls 533 509) [dC,dQ,fG,fJ])]
def rX:dJ:=nl ["self","kind","to","frm","term"]
abbrev mV:List S:=[.cD aN 2 bA,.cD aN 12 dC,.cD aN 13 dQ,.cD aN 0 fG,.cD aN 14 (ek 0),.cD aN 1 (ek 0),.cD aN 15 (.lst []),.cD aN 16 (ek 0),.cD aN 17 (.cst .none),.cD aN 18 (.cst (.bool false)),.cD aN 19 (ek 0),.cD aN 20 (.cst (.bytes []))]
def uY:dJ:=nl ["self","entries","snapshot"]
abbrev oM:List S:=[.bq 1 (.call .tuple [(.comp (.bp (.loc 1000) 9 []) (.attr aN 15) none)]),.bq 2 (.cst .none),.dp (.qL (.attr aN 17) true) [.bq 2 (.bp (.attr aN 17) 9 [])] [],dj (.tup [(.attr aN 2),(.attr aN 12),(.attr aN 13),(.attr aN 0),(.attr aN 14),(.attr aN 1),bA,(.attr aN 16),dC,(.attr aN 18),(.attr aN 19),(.attr aN 20)])]
def rY:dJ:=nl ["self","other"]
abbrev mK:List S:=[.bq 1 (.call (.cls 578 565) [(.attr aN 2),(.attr aN 12),(.attr aN 13),(.attr aN 0)]),.cD bA 14 (.attr aN 14),.cD bA 1 (.attr aN 1),.cD bA 15 (.comp (.bp (.loc 1000) 10 []) (.attr aN 15) none),.cD bA 16 (.attr aN 16),.dp (.qL (.attr aN 17) true) [.cD bA 17 (.bp (.attr aN 17) 10 [])] [],.cD bA 18 (.attr aN 18),.cD bA 19 (.attr aN 19),.cD bA 20 (.attr aN 20),dj bA]
def pH:dJ:=nl ["message","sink","entry"]
abbrev kn:List S:=[.bq 1 (.call (.cls 344 285) []),.expr (.bp bA 4 [(.attr aN 2)]),.expr (.bp bA 4 [(.attr aN 12)]),.expr (.bp bA 4 [(.attr aN 13)]),.expr (.bp bA 4 [(.attr aN 0)]),.expr (.bp bA 4 [(.attr aN 14)]),.expr (.bp bA 4 [(.attr aN 1)]),.expr (.bp bA 4 [(.attr aN 16)]),.expr (.bp bA 4 [(.attr aN 19)]),.expr (.bp bA 6 [(.attr aN 18)]),.expr (.bp bA 4 [(.call .len [(.attr aN 15)])]),.q9 2 (.attr aN 15) [.expr (.bp bA 5 [(bD 418 [dC])])],.expr (.bp bA 6 [(.qL (.attr aN 17) true)]),.dp (.qL (.attr aN 17) true) [.expr (.bp bA 5 [(bD 544 [(.attr aN 17)])])] [],.expr (.bp bA 5 [(.attr aN 20)]),dj (.bp bA 7 [])]
def pG:dJ:=nl ["data","cursor","kind","to","frm","message","_"]
abbrev kN:List S:=[.bq 1 (.call (.cls 267 201) [aN]),.bq 2 (.bp bA 4 []),.dp (.cmp .Gt dC (ek 20)) [.raise 56 (.text [dC])] [],.bq 3 (.bp bA 4 []),.bq 4 (.bp bA 4 []),.bq 5 (.call (.cls 578 565) [dC,dQ,fG,(.bp bA 4 [])]),.cD fJ 14 (.bp bA 4 []),.cD fJ 1 (.bp bA 4 []),.cD fJ 16 (.bp bA 4 []),.cD fJ 19 (.bp bA 4 []),.cD fJ 18 (.bp bA 6 []),.forR 6 none (bD 362 [bA]) [.expr (.bp (.attr fJ 15) 0 [(bD 425 [(.bp bA 5 [])])])],.dp (.bp bA 6 []) [.cD fJ 17 (bD 551 [(.bp bA 5 [])])] [],.cD fJ 20 (.bp bA 5 []),.expr (.bp bA 7 []),dj fJ]
def se:dJ:=nl ["self","kind","client","number","key","value","expect"]
abbrev mZ:List S:=[.cD aN 2 bA,.cD aN 21 dC,.cD aN 22 dQ,.cD aN 23 fG,.cD aN 24 fJ,.cD aN 25 jW]
def uq:dJ:=nl ["self"]
abbrev oV:List S:=[dj (.tup [(.attr aN 2),(.attr aN 21),(.attr aN 22),(.attr aN 23),(.attr aN 24),(.attr aN 25)])]
def pF:dJ:=nl ["self","sink"]
abbrev km:List S:=[.dp (.or [(.cmp .Lt (.attr aN 2) (ek 0)),(.cmp .Gt (.attr aN 2) (ek 6))]) [.raise 128 (.text [(.attr aN 2)])] [],.bq 1 (.call (.cls 344 285) []),.iG [.expr (.bp bA 4 [(.attr aN 2)]),.expr (.bp bA 4 [(.attr aN 21)]),.expr (.bp bA 4 [(.attr aN 22)]),.expr (.bp bA 5 [(.attr aN 23)]),.expr (.bp bA 5 [(.attr aN 24)]),.expr (bD 638 [bA,(.attr aN 25)])] 80 128,dj (.bp bA 7 [])]
def yg:dJ:=nl ["sink","octets"]
abbrev sg:List S:=[.expr (.bp aN 6 [(.qL bA true)]),.dp (.qL bA true) [.expr (.bp aN 5 [bA])] []]
def vP:dJ:=nl ["cursor"]
abbrev pP:List S:=[.dp (.bp aN 6 []) [dj (.bp aN 5 [])] [],dj (.cst .none)]
def pB:dJ:=nl ["data","cursor","kind","client","number","key","value","expect"]
abbrev kK:List S:=[.iG [.bq 1 (.call (.cls 267 201) [aN]),.bq 2 (.bp bA 4 []),.bq 3 (.bp bA 4 []),.bq 4 (.bp bA 4 []),.bq 5 (.bp bA 5 []),.bq 6 (.bp bA 5 []),.bq 7 (bD 645 [bA]),.expr (.bp bA 7 [])] 56 128,.dp (.cmp .Gt dC (ek 6)) [.raise 128 (.text [dC])] [],dj (.call (.cls 627 610) [dC,dQ,fG,fJ,jW,A0])]
def qT:dJ:=nl ["self","offset"]
abbrev lC:List S:=[.cD aN 17 (.cst .none),.cD aN 15 (.lst []),.cD aN 26 bA]
def kh:dJ:=nl ["self","i"]
abbrev hU:List S:=[.dp (.cmp .Lt bA (.attr aN 26)) [.dp (.and [(.qL (.attr aN 17) true),(.cmp .Eq (.attr (.attr aN 17) 1) bA)]) [dj (.attr (.attr aN 17) 0)] [],dj (.cst .none)] [],.dp (.cmp .GtE bA (.bin .Add (.attr aN 26) (.call .len [(.attr aN 15)]))) [dj (.cst .none)] [],dj (.attr (.sub (.attr aN 15) (.bin .Sub bA (.attr aN 26))) 0)]
def k_:dJ:=nl ["self","i","term","found"]
abbrev iF:List S:=[.dp (.cmp .Lt bA (.attr aN 26)) [.ret none] [],.bq 3 (.bp aN 14 [bA]),.dp (.or [(.qL dQ false),(.cmp .NotEq dQ dC)]) [.ret none] [],.cD aN 15 (.A4 (.attr aN 15) (some (.bin .Sub (.bin .Add bA (ek 1)) (.attr aN 26))) none),.cD aN 26 (.bin .Add bA (ek 1))]
def gq:dJ:=nl ["self","entries","after"]
abbrev eY:List S:=[.dp (.cmp .Eq (.call .len [bA]) (ek 0)) [.ret none] [],.bq 2 (.attr (bw bA 0) 1),.dp (.cmp .Eq dC (.bin .Add (.attr aN 26) (.call .len [(.attr aN 15)]))) [.cD aN 15 (.bin .Add (.attr aN 15) bA)] [.dp (.cmp .LtE dC (.attr aN 26)) [.cD aN 26 dC,.cD aN 15 (.A4 bA none none)] [.dp (.cmp .Lt dC (.bin .Add (.attr aN 26) (.call .len [(.attr aN 15)]))) [.cD aN 15 (.bin .Add (.bp aN 17 [(.attr aN 26),dC]) bA)] [.bad]]]]
def qA:dJ:=nl ["self","lo","hi"]
abbrev lF:List S:=[.dp (.cmp .Gt bA dC) [.raise 104 (.text [bA,dC])] [],.dp (.or [(.cmp .Lt bA (.attr aN 26)),(.cmp .Gt dC (.bin .Add (.attr aN 26) (.call .len [(.attr aN 15)])))]) [.bad] [],dj (.A4 (.attr aN 15) (some (.bin .Sub bA (.attr aN 26))) (some (.bin .Sub dC (.attr aN 26))))]
def sU:dJ:=nl ["self","rows","e","snap"]
abbrev mO:List S:=[.bq 1 (.lst []),.q9 2 (.attr aN 15) [.expr (.bp bA 0 [(.bp dC 9 [])])],.bq 3 (.cst .none),.dp (.qL (.attr aN 17) true) [.bq 3 (.bp (.attr aN 17) 9 [])] [],dj (.tup [(.attr aN 26),(.call .tuple [bA]),dQ])]
def yE:dJ:=nl ["nums","i"]
abbrev sA:List S:=[dj (.bin .Add (.sub aN (.bin .Mod bA (.call .len [aN]))) (.bin .Mult (ek 1009) (.bin .FloorDiv bA (.call .len [aN]))))]
def yH:dJ:=nl ["y"]
abbrev rJ:List S:=[.dp (.cmp .Eq (.bin .Mod aN (ek 11)) (ek 10)) [dj (ek 18446744073709551615)] [],dj (.bin .Add (.bin .Sub (.bin .Pow (ek 128) (.bin .Mod aN (ek 11))) (ek 1)) (.bin .Mod (.bin .FloorDiv aN (ek 11)) (ek 2)))]
def uj:dJ:=nl ["y"]
abbrev o8:List S:=[.dp (.cmp .Eq (.bin .Mod aN (ek 2)) (ek 0)) [dj (.bin .Add (ek 18446744073709551616) aN)] [],dj (.bin .Sub (ek 0) aN)]
def yQ:dJ:=nl ["y"]
abbrev sV:List S:=[dj (.A4 (.bin .Mult (.call .bytes [(.lst [(.bin .Mod aN (ek 256)),(ek 200),(ek 0)])]) (ek 44)) none (some (.sub (.tup [(ek 3),(ek 0),(ek 129),(ek 1),(ek 128),(ek 2),(ek 127),(ek 5)]) (.bin .Mod (.bin .FloorDiv aN (ek 256)) (ek 8)))))]
noncomputable def zY:dJ:=[("n",.cell,0),("groups",.cell,1)]
abbrev vz:List S:=[.bq 1 (ek 1),.o9 (.cmp .GtE aN (.bin .Pow (ek 128) bA)) [.bq 1 (.bin .Add bA (ek 1))],dj (.call .bytes [(.kg (.bin .Add (.bin .Mod (.bin .FloorDiv aN (.bin .Pow (ek 128) (.loc 1000))) (ek 128)) (.ite (.cmp .Lt (.bin .Add (.loc 1000) (ek 1)) bA) (ek 128) (ek 0))) bA)])]
def yl:dJ:=nl ["b"]
abbrev ti:List S:=[dj (.bin .Add (bD 769 [(.call .len [aN])]) aN)]
def vO:dJ:=nl ["old","y","fresh"]
abbrev pT:List S:=[.bq 2 (bD 750 [bA]),.dp (.cmp .Eq (.call .len [(bD 769 [dC])]) (.call .len [(bD 769 [aN])])) [.bq 2 (bD 750 [(.bin .Add bA (ek 2))])] [],dj dC]
def nX:dJ:=nl ["old","y","fresh"]
abbrev jI:List S:=[.bq 2 (bD 764 [bA]),.dp (.cmp .Eq (.call .len [dC]) (.call .len [aN])) [.bq 2 (.bin .Add dC (.cst (.bytes [7])))] [],dj dC]
def wO:dJ:=nl ["row"]
abbrev qk:List S:=[dj (.bin .Add (.bin .Add (.bin .Add (bD 769 [(bw aN 0)]) (bD 769 [(bw aN 1)])) (bD 769 [(bw aN 2)])) (bD 776 [(bw aN 3)]))]
def Az:dJ:=nl ["pair","f","fresh"]
abbrev u7:List S:=[.hX (bw aN 1) bA dC,.dp (.cmp .Eq bA (ek 0)) [.cD (bw aN 0) 0 dC] [.dp (.cmp .Eq bA (ek 1)) [.cD (bw aN 0) 1 dC] [.dp (.cmp .Eq bA (ek 2)) [.cD (bw aN 0) 2 dC] [.cD (bw aN 0) 3 dC]]]]
def yu:dJ:=nl ["pair","f","y","old"]
abbrev sG:List S:=[.bq 3 (.sub (bw aN 1) bA),.dp (.or [(.cmp .Lt bA (ek 2)),(.and [(.cmp .Eq bA (ek 2)),(.cmp .Eq (.bin .Mod dC (ek 3)) (ek 0))])]) [.expr (bD 804 [aN,bA,(bD 783 [dQ,(.bin .FloorDiv dC (ek 3))])])] [.dp (.cmp .Eq bA (ek 2)) [.expr (bD 804 [aN,bA,(.ite (.cmp .Eq dQ (ek 0)) (ek 2) (ek 0))])] [.expr (bD 804 [aN,bA,(bD 790 [dQ,dC])])]]]
def rZ:dJ:=nl ["pair"]
abbrev mS:List S:=[dj (.and [(.cmp .Eq (.bp (bw aN 0) 12 []) (.call .len [(bD 797 [(bw aN 1)])])),(.cmp .Eq (.bp (bw aN 0) 11 []) (.call .len [(bw (bw aN 1) 3)]))])]
def nZ:dJ:=nl ["data"]
abbrev jQ:List S:=[.kL [dj (.bp (bD 425 [aN]) 9 [])] 56 .none]
def yA:dJ:=nl ["pair","octets"]
abbrev rM:List S:=[.bq 1 (bD 797 [(bw aN 1)]),.dp (.or [(.not (bD 818 [aN])),(.cmp .NotEq (bD 418 [(bw aN 0)]) bA),(.cmp .NotEq (.bp (bw aN 0) 9 []) (.call .tuple [(bw aN 1)]))]) [dj (.cst (.bool false))] [],.dp (.or [(.cmp .Eq (bw (bw aN 1) 2) (ek 0)),(.cmp .Eq (bw (bw aN 1) 2) (ek 2))]) [dj (.cmp .Eq (bD 825 [bA]) (.call .tuple [(bw aN 1)]))] [],dj (.qL (bD 825 [bA]) false)]
def vV:dJ:=nl ["entries","rows","y","weights","n","fit","k"]
abbrev qs:List S:=[.bq 3 (.comp (.call .len [(bD 797 [(.loc 1000)])]) bA none),.bq 4 (.bin .Sub (.bin .Add (.call .sum [(.A4 dQ none (some (.bin .Mod dC (.bin .Add (.call .len [bA]) (ek 1)))))]) (.bin .Mod (.bin .FloorDiv dC (ek 7)) (ek 3))) (ek 1)),.bq 5 (.call .min [(ek 1),(.call .len [bA])]),.forR 6 none (.call .len [bA]) [.dp (.cmp .LtE (.call .sum [(.A4 dQ none (some (.bin .Add jW (ek 1))))]) fG) [.bq 5 (.bin .Add jW (ek 1))] []],dj (.cmp .Eq (.comp (.bp (.loc 1000) 9 []) (bD 432 [aN,fG]) none) (.comp (.call .tuple [(.loc 1000)]) (.A4 bA none (some fJ)) none))]
def sR:dJ:=nl ["what","thing"]
abbrev nt:List S:=[.kL [.dp (.cmp .Eq aN (ek 0)) [.expr (.bp bA 12 [])] [.dp (.cmp .Eq aN (ek 1)) [.expr (bD 418 [bA])] [.dp (.cmp .Eq aN (ek 2)) [.expr (bD 589 [bA])] [.expr (bD 432 [bA,(ek 99999)])]]]] 80 (.bool true),dj (.cst (.bool false))]
def yw:dJ:=nl ["s","conf"]
abbrev s8:List S:=[.bq 1 (.bin .Add (.bin .Add (.call .bytes [(.lst [(.call .len [(bw aN 2)])])]) (.bp (.cst (.bytes [])) 3 [(.comp (bD 769 [(.loc 1000)]) (bw aN 2) none)])) (.call .bytes [(.lst [(ek 0),(ek 0),(ek 0),(.ite (bw aN 3) (ek 1) (ek 0))])])),dj (.bin .Add (.bin .Add (.bin .Add (bD 769 [(bw aN 0)]) (bD 769 [(bw aN 1)])) (bD 776 [bA])) (bD 776 [(bw aN 4)]))]
def rP:dJ:=nl ["g","out","pair"]
abbrev m_:List S:=[.bq 1 (.bin .Add (.bp (.cst (.bytes [])) 3 [(.comp (bD 769 [(.loc 1000)]) (bw aN 1) none)]) (.call .bytes [(.lst [(.ite (bw aN 2) (ek 1) (ek 0)),(.call .len [(bw aN 3)])])])),.q9 2 (bw aN 3) [.bq 1 (.bin .Add bA (bD 776 [(bD 797 [(bw dC 1)])]))],.dp (.qL (bw aN 4) false) [.bq 1 (.bin .Add bA (.cst (.bytes [0])))] [.bq 1 (.bin .Add (.bin .Add bA (.cst (.bytes [1]))) (bD 776 [(bD 849 [(bw aN 4)])]))],dj (.bin .Add bA (bD 776 [(bw aN 5)]))]
def mU:dJ:=nl ["g","h","held","s","rows"]
abbrev jr:List S:=[.bq 1 (bw aN 1),.bq 2 (.cst .none),.dp (.qL (bw aN 4) true) [.bq 3 (bw aN 4),.bq 2 (.tup [(bw dQ 0),(bw dQ 1),(.tup [(.call .tuple [(bw dQ 2)]),(.tup []),(.tup []),(.tup []),(bw dQ 3)]),(bw dQ 4)])] [],.bq 4 (.call .tuple [(.comp (.call .tuple [(bw (.loc 1000) 1)]) (bw aN 3) none)]),dj (.tup [(bw bA 0),(bw bA 1),(bw bA 2),(bw bA 3),(bw bA 4),(bw bA 5),fG,(bw bA 6),dC,(bw aN 2),(bw bA 7),(bw aN 5)])]
def qU:dJ:=nl ["g"]
abbrev lN:List S:=[dj (.cmp .Eq (.call .len [(.comp (.loc 1000) (bw aN 3) (some (.and [(.cmp .NotEq (bw (bw (.loc 1000) 1) 2) (ek 0)),(.cmp .NotEq (bw (bw (.loc 1000) 1) 2) (ek 2))])))]) (ek 0))]
def lX:dJ:=nl ["data"]
abbrev iU:List S:=[.kL [dj (.bp (bD 596 [aN]) 9 [])] 56 .none]
def w8:dJ:=nl ["g","row","octets"]
abbrev qp:List S:=[.bq 1 (bD 859 [aN]),.bq 2 (bD 854 [aN]),.dp (.or [(.cmp .NotEq (.bp (bw aN 0) 9 []) bA),(.cmp .NotEq (bD 589 [(bw aN 0)]) dC)]) [dj (.cst (.bool false))] [],.dp (bD 864 [aN]) [dj (.cmp .Eq (bD 871 [dC]) bA)] [],dj (.qL (bD 871 [dC]) false)]
def zW:dJ:=nl ["g","f","n"]
abbrev u9:List S:=[.hX (bw aN 1) bA dC,.dp (.cmp .Eq bA (ek 0)) [.cD (bw aN 0) 2 dC] [.dp (.cmp .Eq bA (ek 1)) [.cD (bw aN 0) 12 dC] [.dp (.cmp .Eq bA (ek 2)) [.cD (bw aN 0) 13 dC] [.dp (.cmp .Eq bA (ek 3)) [.cD (bw aN 0) 0 dC] [.dp (.cmp .Eq bA (ek 4)) [.cD (bw aN 0) 14 dC] [.dp (.cmp .Eq bA (ek 5)) [.cD (bw aN 0) 1 dC] [.dp (.cmp .Eq bA (ek 6)) [.cD (bw aN 0) 16 dC] [.cD (bw aN 0) 19 dC]]]]]]]]
def wU:dJ:=nl ["g","s"]
abbrev pW:List S:=[.hX aN (ek 4) bA,.cD (bw aN 0) 17 (.call (.cls 533 509) [(bw bA 0),(bw bA 1),(.call (.cls 463 446) [(bw bA 2),(.lst []),(.lst []),(.lst []),(bw bA 3)]),(bw bA 4)])]
def yS:dJ:=nl ["k","f","fresh"]
abbrev sT:List S:=[.hX (bw aN 1) bA dC,.dp (.cmp .Eq bA (ek 0)) [.cD (bw aN 0) 2 dC] [.dp (.cmp .Eq bA (ek 1)) [.cD (bw aN 0) 21 dC] [.dp (.cmp .Eq bA (ek 2)) [.cD (bw aN 0) 22 dC] [.dp (.cmp .Eq bA (ek 3)) [.cD (bw aN 0) 23 dC] [.dp (.cmp .Eq bA (ek 4)) [.cD (bw aN 0) 24 dC] [.cD (bw aN 0) 25 dC]]]]]]
def sY:dJ:=nl ["row","out"]
abbrev mW:List S:=[.bq 1 (.bin .Add (.bin .Add (.bin .Add (.bin .Add (bD 769 [(bw aN 0)]) (bD 769 [(bw aN 1)])) (bD 769 [(bw aN 2)])) (bD 776 [(bw aN 3)])) (bD 776 [(bw aN 4)])),.dp (.qL (bw aN 5) false) [dj (.bin .Add bA (.cst (.bytes [0])))] [],dj (.bin .Add (.bin .Add bA (.cst (.bytes [1]))) (bD 776 [(bw aN 5)]))]
def wi:dJ:=nl ["k","octets"]
abbrev pO:List S:=[.bq 1 (bD 906 [(bw aN 1)]),.dp (.or [(.cmp .NotEq (.bp (bw aN 0) 13 []) bA),(.cmp .NotEq (.bp (bw aN 0) 9 []) (.call .tuple [(bw aN 1)]))]) [dj (.cst (.bool false))] [],dj (.cmp .Eq (.bp (bD 652 [bA]) 9 []) (.call .tuple [(bw aN 1)]))]
def jG:dJ:=nl ["command"]
abbrev gQ:List S:=[.kL [.expr (.bp aN 13 [])] 128 (.bool true),dj (.cst (.bool false))]
def l_:dJ:=nl ["pool","j","y","pair","f","old","lone","good"]
abbrev iV:List S:=[.bq 3 (.sub aN bA),.bq 4 (.bin .Mod dC (ek 3)),.bq 5 (.sub (bw dQ 1) fG),.expr (bD 804 [dQ,fG,(bD 757 [(.bin .FloorDiv dC (ek 3))])]),.bq 6 (.call (.cls 578 565) [(ek 3),(ek 1),(ek 2),(ek 3)]),.expr (.bp (.attr jW 15) 0 [(bw dQ 0)]),.bq 7 (.and [(bD 844 [(ek 0),(bw dQ 0)]),(bD 844 [(ek 1),(bw dQ 0)]),(bD 844 [(ek 2),jW])]),.dp (.cmp .Gt bA (ek 0)) [.bq 7 (.and [A0,(bD 844 [(ek 3),(.comp (bw (.loc 1000) 0) aN none)])])] [],.expr (bD 804 [dQ,fG,fJ]),dj (.and [A0,(bD 832 [dQ])])]
def om:dJ:=nl ["pool","j","y","pair","octets","twin"]
abbrev jM:List S:=[.bq 3 (.sub aN bA),.dp (.and [(.cmp .NotEq (bw (bw dQ 1) 2) (ek 0)),(.cmp .NotEq (bw (bw dQ 1) 2) (ek 2))]) [.expr (bD 804 [dQ,(ek 2),(.bin .Mult (.bin .Mod dC (ek 2)) (ek 2))])] [],.bq 4 (bD 418 [(bw dQ 0)]),.dp (.cmp .NotEq fG (bD 797 [(bw dQ 1)])) [dj (.cst (.bool false))] [],.bq 5 (.lst [(bD 425 [fG]),(.call .list [(bw dQ 1)])]),.expr (bD 811 [fJ,(.bin .Mod dC (ek 4)),(.bin .FloorDiv dC (ek 4))]),.hX aN bA fJ,dj (.and [(bD 832 [fJ]),(bD 832 [dQ])])]
def uM:dJ:=nl ["pool","j","y","pair","twin","good"]
abbrev oQ:List S:=[.bq 3 (.sub aN bA),.bq 4 (.lst [(.bp (bw dQ 0) 10 []),(.call .list [(bw dQ 1)])]),.bq 5 (bD 818 [fG]),.expr (bD 811 [fG,(.bin .Mod dC (ek 4)),(.bin .FloorDiv dC (ek 4))]),.bq 5 (.and [fJ,(bD 832 [fG]),(bD 818 [dQ])]),.expr (bD 811 [dQ,(.bin .Mod (.bin .FloorDiv dC (ek 4)) (ek 4)),(.bin .FloorDiv dC (ek 16))]),.hX aN bA fG,dj (.and [fJ,(bD 832 [dQ]),(bD 832 [fG])])]
def qI:dJ:=nl ["g","y","f","q","old"]
abbrev lH:List S:=[.bq 2 (.bin .Mod bA (ek 10)),.bq 3 (.bin .FloorDiv bA (ek 10)),.dp (.cmp .Eq dC (ek 8)) [.hX aN (ek 2) (.not (bw aN 2)),.cD (bw aN 0) 18 (bw aN 2)] [.dp (.cmp .Eq dC (ek 9)) [.hX aN (ek 5) (bD 790 [(bw aN 5),dQ]),.cD (bw aN 0) 20 (bw aN 5)] [.bq 4 (.sub (bw aN 1) dC),.expr (bD 885 [aN,dC,(bD 757 [dQ])]),.dp (.not (bD 844 [(ek 2),(bw aN 0)])) [dj (.cst (.bool false))] [],.dp (.cmp .Eq dC (ek 0)) [.expr (bD 885 [aN,dC,(.bin .Mod (.bin .Add (.bin .Add fG (ek 1)) (.bin .Mod dQ (ek 20))) (ek 21))])] [.expr (bD 885 [aN,dC,(bD 783 [fG,dQ])])]]],dj (bD 878 [aN])]
def kY:dJ:=nl ["g","pair","y","at"]
abbrev iA:List S:=[.dp (.or [(.cmp .Eq (.call .len [(bw aN 3)]) (ek 0)),(.and [(.cmp .Eq (.bin .Mod dC (ek 2)) (ek 0)),(.cmp .Lt (.call .len [(bw aN 3)]) (ek 4))])]) [.expr (.bp (.attr (bw aN 0) 15) 0 [(bw bA 0)]),.expr (.bp (bw aN 3) 0 [bA])] [.bq 3 (.bin .Mod (.bin .FloorDiv dC (ek 2)) (.call .len [(bw aN 3)])),.expr (.bp (.attr (bw aN 0) 15) 1 [dQ]),.expr (.bp (bw aN 3) 1 [dQ])],dj (bD 878 [aN])]
def j9:dJ:=nl ["g","y","f","q","s"]
abbrev hW:List S:=[.bq 2 (.bin .Mod bA (ek 5)),.bq 3 (.bin .FloorDiv bA (ek 5)),.bq 4 (bw aN 4),.dp (.qL fG false) [.expr (bD 892 [aN,(.lst [(bD 750 [dQ]),(bD 750 [(.bin .FloorDiv dQ (ek 3))]),(.lst [(.bin .Add (ek 1) (.bin .Mod dQ (ek 200)))]),(.cmp .Eq (.bin .Mod dQ (ek 2)) (ek 0)),(bD 764 [dQ])])])] [.dp (.cmp .Eq dC (ek 0)) [.hX fG (ek 0) (bD 783 [(bw fG 0),dQ]),.cD (.attr (bw aN 0) 17) 1 (bw fG 0)] [.dp (.cmp .Eq dC (ek 1)) [.hX fG (ek 4) (bD 790 [(bw fG 4),dQ]),.cD (.attr (bw aN 0) 17) 3 (bw fG 4)] [.dp (.cmp .Eq dC (ek 2)) [.expr (.bp (bw fG 2) 0 [(.bin .Add (.bin .Add (.sub (bw fG 2) (.bin .Sub (.call .len [(bw fG 2)]) (ek 1))) (ek 1)) (.bin .Mod dQ (ek 200)))]),.expr (.bp (.attr (.attr (.attr (bw aN 0) 17) 11) 6) 0 [(.sub (bw fG 2) (.bin .Sub (.call .len [(bw fG 2)]) (ek 1)))])] [.dp (.cmp .Eq dC (ek 3)) [.hX fG (ek 3) (.not (bw fG 3)),.cD (.attr (.attr (bw aN 0) 17) 11) 10 (bw fG 3)] [.hX aN (ek 4) (.cst .none),.cD (bw aN 0) 17 (.cst .none)]]]]],dj (bD 878 [aN])]
def je:dJ:=nl ["k","y","f","q","old","good"]
abbrev f_:List S:=[.bq 2 (.bin .Mod bA (ek 6)),.bq 3 (.bin .FloorDiv bA (ek 6)),.bq 4 (.sub (bw aN 1) dC),.dp (.cmp .Lt dC (ek 3)) [.expr (bD 899 [aN,dC,(bD 757 [dQ])]),.bq 5 (bD 920 [(bw aN 0)]),.dp (.cmp .Eq dC (ek 0)) [.expr (bD 899 [aN,dC,(.bin .Add (ek 7) (.bin .Mod dQ (ek 300)))]),.bq 5 (.and [fJ,(bD 920 [(bw aN 0)])]),.expr (bD 899 [aN,dC,(.bin .Mod (.bin .Add (.bin .Add fG (ek 1)) (.bin .Mod dQ (ek 6))) (ek 7))])] [.expr (bD 899 [aN,dC,(bD 783 [fG,dQ])])],.dp (.not fJ) [dj (.cst (.bool false))] []] [.dp (.cmp .Lt dC (ek 5)) [.expr (bD 899 [aN,dC,(bD 790 [fG,dQ])])] [.dp (.qL fG false) [.expr (bD 899 [aN,dC,(bD 764 [dQ])])] [.expr (bD 899 [aN,dC,(.cst .none)])]]],.dp (.not (bD 913 [aN])) [dj (.cst (.bool false))] [],.dp (.cmp .Eq (.bin .Mod dQ (ek 2)) (ek 0)) [.hX aN (ek 0) (bD 652 [(.bp (bw aN 0) 13 [])])] [],dj (.cst (.bool true))]
def vK:dJ:=nl ["w","y","part"]
abbrev qm:List S:=[.dp (.cmp .NotEq (.bp (bw aN 0) 9 []) (.tup [(bw aN 1),(.call .tuple [(.comp (.call .tuple [(.loc 1000)]) (bw aN 2) none)]),(.cst .none)])) [dj (.cst (.bool false))] [],.bq 2 (.bp (bw aN 0) 17 [(bw aN 1),(.bin .Add (bw aN 1) (.call .len [(bw aN 2)]))]),.dp (.cmp .NotEq (.comp (.bp (.loc 1000) 12 []) dC none) (.comp (.call .len [(bD 797 [(.loc 1000)])]) (bw aN 2) none)) [dj (.cst (.bool false))] [],dj (bD 837 [dC,(bw aN 2),bA])]
def mY:dJ:=nl ["w","pool","j","y","at","fresh","i","pair","twin","rows","gone"]
abbrev jo:List S:=[.bq 4 (.bin .Add (.bin .Sub (bw aN 1) (ek 1)) (.bin .Mod dQ (.bin .Add (.call .len [(bw aN 2)]) (ek 2)))),.bq 5 (.lst []),.forR 6 none (.bin .Add (ek 1) (.bin .Mod (.bin .FloorDiv dQ (ek 7)) (ek 2))) [.bq 7 (.sub bA (.bin .Mod (.bin .Add dC jW) (.call .len [bA]))),.bq 8 (.lst [(.bp (bw A0 0) 10 []),(.call .list [(bw A0 1)])]),.dp (.not (bD 818 [Dt])) [dj (.cst (.bool false))] [],.expr (bD 804 [Dt,(ek 1),(.bin .Add fG jW)]),.expr (bD 811 [Dt,(ek 0),(.bin .Add dQ (.bin .Mult (ek 5) jW))]),.expr (.bp fJ 0 [Dt])],.expr (.bp (bw aN 0) 16 [(.comp (bw (.loc 1000) 0) fJ none)]),.bq 9 (.comp (bw (.loc 1000) 1) fJ none),.dp (.cmp .LtE fG (bw aN 1)) [.hX aN (ek 1) fG,.hX aN (ek 2) xe] [.hX aN (ek 2) (.bin .Add (.A4 (bw aN 2) none (some (.bin .Sub fG (bw aN 1)))) xe)],.dp (.not (bD 972 [aN,(.bin .FloorDiv dQ (ek 14))])) [dj (.cst (.bool false))] [],.dp (.cmp .Gt (.bin .Mod (.bin .FloorDiv dQ (ek 14)) (ek 3)) (ek 0)) [dj (.cst (.bool true))] [],.bq 10 (.lst [(bw (.bp (bw aN 0) 17 [fG,(.bin .Add fG (ek 1))]) 0),(.call .list [(bw xe 0)])]),.expr (.bp (bw aN 0) 15 [fG,(bw (bw xe 0) 0)]),.hX aN (ek 2) (.A4 (bw aN 2) (some (.bin .Sub (.bin .Add fG (ek 1)) (bw aN 1))) none),.hX aN (ek 1) (.bin .Add fG (ek 1)),.expr (bD 811 [Ez,(.bin .Mod (.bin .FloorDiv dQ (ek 42)) (ek 4)),(.bin .FloorDiv dQ (ek 168))]),dj (.and [(bD 832 [Ez]),(bD 972 [aN,(.bin .FloorDiv dQ (ek 42))])])]
noncomputable def lY:dJ:=[("g",.cell,0),("y",.loc,1),("other",.cell,2),("pairs",.loc,3),("s",.loc,4),("h",.loc,5),("i",.loc,6)]
abbrev iT:List S:=[.dp (.and [(.cmp .Eq (.bin .Mod bA (ek 2)) (ek 0)),(bD 864 [aN])]) [.bq 2 (bD 596 [(bD 589 [(bw aN 0)])])] [.bq 2 (.bp (bw aN 0) 10 [])],.dp (.cmp .NotEq (.call .len [(.attr dC 15)]) (.call .len [(bw aN 3)])) [dj (.cst (.bool false))] [],.bq 3 (.kg (.lst [(.sub (.attr dC 15) (.loc 1000)),(.call .list [(bw (.sub (bw aN 3) (.loc 1000)) 1)])]) (.call .len [(bw aN 3)])),.bq 4 (.cst .none),.dp (.qL (bw aN 4) true) [.bq 4 (.lst [(bw (bw aN 4) 0),(bw (bw aN 4) 1),(.call .list [(bw (bw aN 4) 2)]),(bw (bw aN 4) 3),(bw (bw aN 4) 4)])] [],.bq 5 (.lst [dC,(.call .list [(bw aN 1)]),(bw aN 2),dQ,fG,(bw aN 5)]),.expr (bD 885 [aN,(ek 5),(bD 783 [(bw (bw aN 1) 5),(.bin .FloorDiv bA (ek 2))])]),.dp (.cmp .Gt (.call .len [(bw aN 3)]) (ek 0)) [.expr (bD 811 [(bw (bw aN 3) 0),(ek 3),(.bin .FloorDiv bA (ek 3))])] [],.dp (.or [(.not (bD 878 [fJ])),(.cmp .NotEq (bD 589 [(bw aN 0)]) (bD 854 [aN]))]) [dj (.cst (.bool false))] [],.expr (bD 885 [fJ,(ek 6),(bD 783 [(bw (bw fJ 1) 6),(.bin .FloorDiv bA (ek 5))])]),.dp (.cmp .Gt (.call .len [dQ]) (ek 0)) [.expr (bD 811 [(bw dQ 0),(ek 0),(.bin .FloorDiv bA (ek 6))])] [],.dp (.or [(.not (bD 878 [fJ])),(.cmp .NotEq (bD 589 [(bw aN 0)]) (bD 854 [aN]))]) [dj (.cst (.bool false))] [],.forR 6 none (ek 6) [.hX aN jW (.sub fJ jW)],dj (.cst (.bool true))]
def yN:dJ:=nl ["act","pool","j","g","k","w","q"]
abbrev tg:List S:=[.dp (.cmp .Eq aN (ek 0)) [dj (bD 925 [bA,dC,jW])] [],.dp (.cmp .Eq aN (ek 1)) [dj (bD 932 [bA,dC,jW])] [],.dp (.cmp .Eq aN (ek 2)) [dj (bD 939 [bA,dC,jW])] [],.dp (.cmp .Eq aN (ek 3)) [dj (bD 946 [dQ,jW])] [],.dp (.cmp .Eq aN (ek 4)) [dj (bD 953 [dQ,(.sub bA dC),jW])] [],.dp (.cmp .Eq aN (ek 5)) [dj (bD 960 [dQ,jW])] [],.dp (.cmp .Eq aN (ek 6)) [dj (bD 967 [fG,jW])] [],.dp (.cmp .Eq aN (ek 7)) [dj (bD 977 [fJ,bA,dC,jW])] [],dj (bD 982 [dQ,jW])]
noncomputable def Qw:dJ:=[("script",.loc,0),("nums",.loc,1),("head",.loc,2),("pool",.loc,3),("i",.loc,4),("y",.cell,5),("row",.loc,6),("numbers",.loc,7),("m",.loc,8),("g",.loc,9),("f",.loc,10),("k",.loc,11),("base",.loc,12),("w",.loc,13),("t",.loc,14),("z",.loc,15),("j",.loc,16),("pair",.loc,17)]
abbrev HJ:List S:=[.bq 1 (.comp (.bin .Mod (.loc 1000) (ek 999983)) .JT none),.dp (.cmp .Eq (.call .len [bA]) (ek 0)) [.bq 1 (.lst [(ek 0)])] [],.bq 2 (bD 743 [bA,(ek 0)]),.bq 3 (.lst []),.forR 4 none (.sub (.tup [(ek 3),(ek 1),(ek 2),(ek 4),(ek 5)]) (.bin .Mod dC (ek 5))) [.bq 5 (bD 743 [bA,(.bin .Add (ek 1) fG)]),.bq 6 (.lst [(bD 750 [fJ]),(bD 750 [(.bin .FloorDiv fJ (ek 22))]),(.bin .Mult (.bin .Mod (.bin .FloorDiv fJ (ek 3)) (ek 2)) (ek 2)),(bD 764 [(.bin .FloorDiv fJ (ek 5))])]),.expr (.bp dQ 0 [(.lst [(.call (.cls 407 376) [(bw jW 0),(bw jW 1),(bw jW 2),(bw jW 3)]),jW])])],.bq 5 (bD 743 [bA,(ek 6)]),.bq 7 (.bin .Add (.lst [(.bin .Mod (.bin .FloorDiv dC (ek 5)) (ek 21))]) (.kg (bD 750 [(.bin .FloorDiv fJ (.bin .Pow (ek 3) (.loc 1000)))]) (ek 7))),.bq 8 (.call (.cls 578 565) [(bw A0 0),(bw A0 1),(bw A0 2),(bw A0 3)]),.bq 9 (.lst [Dt,A0,(.cmp .Eq (.bin .Mod fJ (ek 2)) (ek 1)),(.A4 dQ none (some (.sub (.tup [(ek 2),(ek 1),(ek 3),(ek 0)]) (.bin .Mod fJ (ek 4))))),(.cst .none),(bD 764 [(.bin .FloorDiv fJ (ek 9))])]),.forR 10 (some (ek 4)) (ek 8) [.expr (bD 885 [xe,Ez,(.sub A0 Ez)])],.cD Dt 15 (.comp (bw (.loc 1000) 0) (bw xe 3) none),.cD Dt 18 (bw xe 2),.cD Dt 20 (bw xe 5),.dp (.cmp .Lt (.bin .Mod (.bin .FloorDiv dC (ek 3)) (ek 4)) (ek 3)) [.expr (bD 892 [xe,(.lst [(bD 750 [(.bin .FloorDiv fJ (ek 5))]),(bD 750 [(.bin .FloorDiv fJ (ek 7))]),(.lst [(.bin .Add (ek 1) (.bin .Mod fJ (ek 5)))]),(.cmp .Eq (.bin .Mod fJ (ek 3)) (ek 0)),(bD 764 [(.bin .FloorDiv fJ (ek 11))])])])] [],.bq 5 (bD 743 [bA,(ek 7)]),.bq 6 (.lst [(.bin .Mod fJ (ek 7)),(bD 750 [(.bin .FloorDiv fJ (ek 7))]),(bD 750 [(.bin .FloorDiv fJ (ek 77))]),(bD 764 [(.bin .FloorDiv fJ (ek 3))]),(bD 764 [(.bin .FloorDiv fJ (ek 13))]),(.cst .none)]),.dp (.cmp .Eq (.bin .Mod fJ (ek 2)) (ek 1)) [.hX jW (ek 5) (bD 764 [(.bin .FloorDiv fJ (ek 17))])] [],.bq 11 (.lst [(.call (.cls 627 610) [(bw jW 0),(bw jW 1),(bw jW 2),(bw jW 3),(bw jW 4),(bw jW 5)]),jW]),.bq 12 (.bin .Sub (.bin .Pow (ek 128) (.bin .Add (ek 1) (.bin .Mod dC (ek 8)))) (ek 1)),.bq 13 (.lst [(.call (.cls 732 666) [I9]),I9,(.lst [])]),.dp (.cmp .Gt (.call .len [(.comp (.loc 1000) dQ (some (.not (bD 818 [(.loc 1000)]))))]) (ek 0)) [dj (.cst (.bool false))] [],.dp (.or [(.cmp .NotEq (bD 589 [Dt]) (bD 854 [xe])),(.cmp .NotEq (.bp (bw Bs 0) 13 []) (bD 906 [jW]))]) [dj (.cst (.bool false))] [],.forR 14 none (.bin .Add (ek 3) (.call .min [(ek 5),(.bin .FloorDiv (.call .len [bA]) (ek 4))])) [.bq 5 (bD 743 [bA,(.bin .Add (ek 8) (.bin .Mult (ek 2) (.loc 14)))]),.bq 15 (bD 743 [bA,(.bin .Add (ek 9) (.bin .Mult (ek 2) (.loc 14)))]),.bq 16 (.bin .Mod fJ (.call .len [dQ])),.expr (bD 811 [(.sub dQ (.loc 16)),(.bin .Mod (.bin .FloorDiv fJ (ek 5)) (ek 4)),(.bin .FloorDiv fJ (ek 20))]),.dp (.not (bD 818 [(.sub dQ (.loc 16))])) [dj (.cst (.bool false))] [],.dp (.not (bD 989 [(.bin .Mod (.loc 15) (ek 9)),dQ,(.loc 16),xe,Bs,O8,(.bin .FloorDiv (.loc 15) (ek 9))])) [dj (.cst (.bool false))] []],.forR 4 none (.call .len [dQ]) [.expr (bD 811 [(.sub dQ fG),(ek 0),(.bin .Add dC (.bin .Mult (ek 3) fG))]),.dp (.not (bD 818 [(.sub dQ fG)])) [dj (.cst (.bool false))] [],.expr (bD 804 [(.sub dQ fG),(ek 1),(.bin .Add I9 fG)]),.dp (.not (bD 832 [(.sub dQ fG)])) [dj (.cst (.bool false))] []],.q9 17 (bw xe 3) [.dp (.cmp .NotEq (bw (bw (.loc 17) 1) 2) (ek 2)) [.expr (bD 804 [(.loc 17),(ek 2),(ek 0)])] []],.expr (bD 885 [xe,(ek 6),(bD 783 [(bw (bw xe 1) 6),dC])]),.expr (bD 899 [Bs,(ek 2),(bD 783 [(bw (bw Bs 1) 2),dC])]),.dp (.or [(.not (bD 878 [xe])),(.not (bD 913 [Bs])),(.not (bD 972 [O8,dC]))]) [dj (.cst (.bool false))] [],.forR 4 none (.call .len [dQ]) [.expr (bD 804 [(.sub dQ fG),(ek 2),(bD 750 [(.bin .Add (.bin .Add dC (ek 2)) (.bin .Mult (ek 3) fG))])]),.dp (.not (bD 818 [(.sub dQ fG)])) [dj (.cst (.bool false))] []],dj (bD 837 [(.comp (bw (.loc 1000) 0) dQ none),(.comp (bw (.loc 1000) 1) dQ none),(.bin .FloorDiv dC (ek 5))])]
noncomputable def Qx:List (String×GE):=[("_wall",.call (.fn 21)),("KeepError",.exc 31),("StoreError",.exc 44),("Corrupt",.exc 56),("ShortOctets",.exc 68),("BadOption",.exc 80),("RaftError",.exc 92),("LogPanic",.exc 104),("ServeError",.exc 116),("BadCommand",.exc 128),("MAX_32",.int 4294967295),("MAX_64",.int 18446744073709551615),("write_groups",.call (.fn 137)),("read_groups",.call (.fn 144)),("put_varint",.call (.fn 151)),("read_varint",.call (.fn 158)),("put_varint32",.call (.fn 165)),("read_varint32",.call (.fn 172)),("varint_length",.call (.fn 179)),("read_lengthed",.call (.fn 186)),("Cursor",.call (.cls 267 201)),("Sink",.call (.cls 344 285)),("MSG_PIECE",.int 20),("ENTRY_NORMAL",.int 0),("ENTRY_CONF",.int 2),("rising",.call (.fn 355)),("take_count",.call (.fn 362)),("Entry",.call (.cls 407 376)),("encode_entry",.call (.fn 418)),("decode_entry",.call (.fn 425)),("limit_size",.call (.fn 432)),("ConfState",.call (.cls 463 446)),("put_ids",.call (.fn 474)),("take_ids",.call (.fn 481)),("encode_conf",.call (.fn 488)),("decode_conf",.call (.fn 495)),("Snapshot",.call (.cls 533 509)),("encode_snapshot",.call (.fn 544)),("decode_snapshot",.call (.fn 551)),("Message",.call (.cls 578 565)),("encode_message",.call (.fn 589)),("decode_message",.call (.fn 596)),("CMD_NONE",.int 0),("CMD_CLOSE",.int 6),("Command",.call (.cls 627 610)),("put_maybe",.call (.fn 638)),("take_maybe",.call (.fn 645)),("decode_command",.call (.fn 652)),("Unstable",.call (.cls 732 666)),("_law_draw",.call (.fn 743)),("_law_wide",.call (.fn 750)),("_law_beyond",.call (.fn 757)),("_law_octs",.call (.fn 764)),("_law_var",.call (.fn 769)),("_law_text",.call (.fn 776)),("_law_other",.call (.fn 783)),("_law_other_octs",.call (.fn 790)),("_law_entry",.call (.fn 797)),("_law_put",.call (.fn 804)),("_law_turn",.call (.fn 811)),("_law_weighed",.call (.fn 818)),("_law_read_entry",.call (.fn 825)),("_law_told",.call (.fn 832)),("_law_paged",.call (.fn 837)),("_law_refuses",.call (.fn 844)),("_law_shot",.call (.fn 849)),("_law_message",.call (.fn 854)),("_law_message_row",.call (.fn 859)),("_law_readable",.call (.fn 864)),("_law_read_message",.call (.fn 871)),("_law_heard",.call (.fn 878)),("_law_say",.call (.fn 885)),("_law_shoot",.call (.fn 892)),("_law_tell",.call (.fn 899)),("_law_command",.call (.fn 906)),("_law_asked",.call (.fn 913)),("_law_command_refuses",.call (.fn 920)),("_law_out_of_reach",.call (.fn 925)),("_law_read_again",.call (.fn 932)),("_law_copied",.call (.fn 939)),("_law_reworded",.call (.fn 946)),("_law_more_or_fewer",.call (.fn 953)),("_law_shot_otherwise",.call (.fn 960)),("_law_ordered_otherwise",.call (.fn 967)),("_law_waits",.call (.fn 972)),("_law_put_to_wait",.call (.fn 977)),("_law_gone_on_with",.call (.fn 982)),("_law_deed",.call (.fn 989)),("law",.call (.fn 994)),("len",.call .len),("bytes",.call .bytes),("bytearray",.call .c9),("sorted",.call .sorted),("tuple",.call .tuple),("list",.call .list),("sum",.call .sum),("min",.call .min),("range",.nC)]
noncomputable def Qv:List (Addr×List (Nat×Addr)):=[(31,[]),(44,[]),(56,[]),(68,[]),(80,[]),(92,[]),(104,[]),(116,[]),(128,[]),(267,[(8,208),(4,215),(5,236),(6,250),(7,264)]),(344,[(4,292),(5,313),(6,327),(7,341)]),(407,[(9,383),(10,390),(11,397),(12,404)]),(463,[(9,453),(10,460)]),(533,[(9,516),(10,530)]),(578,[(9,570),(10,575)]),(627,[(9,617),(13,624)]),(732,[(14,687),(15,694),(16,715),(17,722),(9,729)])]
def aH:lu:=⟨λC m=>(Qv.lookup C).bind (·.lookup m),λa b=>a==b,λx=>(Qx.map λp=>(eP p.1,p.2)).lookup x⟩
variable{af:eE}
variable{w:bY}
variable{K:fq}
variable{n:Nat}
variable{ρ:Loc}
variable{H:Hp}
variable{X:Addr->Hp->Prop}
variable{Q:V->Hp->Prop}
def Ext(H H':Hp):Prop:=∀a mo,H a=some mo->H' a=some mo
theorem Ext.refl:Ext H H:=λ_ _ h=>h
theorem Ext.trans(a:Ext H H')(b:Ext H' cI):Ext H cI:=λx m h=>b x m (a x m h)
theorem ne_sn(h:H a=some mo)(q:H b=none):a≠b:=λe=>by rw[e,q] at h;injection h
theorem bo(h:upd H a mo b=none):H b=none/\b≠a:=by
 by_cases e:b=a
 ·subst e;rw[cX] at h;injection h
 ·rw[dr _ _ e] at h;exact⟨h,e⟩
theorem Ext.fresh(x:Ext H H')(h:H a=none):Ext H (upd H' a mo):=λb m q=>by
 erw[aj (dr _ _ (ne_sn q h)),<-x b m q]
theorem ae(n:a≠b)(h:H a=some m):upd H b mo a=some m:=(dr _ _ n).trans h
theorem aZ.up(l:n<=m)(h:aZ af w K n f args H Q X):aZ af w K m f args H Q X:=
 λB g os e A s i d a b c=>h B g os e A s i ⟨d.handled,d.frames,aF (cV (aP 4 l) _) d.depth,aF (cV (aP 100 l) _) d.units⟩ a b c
section
variable{ms:List S}{Q:Fl->Loc->Hp->Prop}
theorem Zk(h:dm af w K aH n e ρ H (λ_ a=>bN af w K aH n ms ρ a Q X) X):bN af w K aH n (.expr e::ms) ρ H Q X:=h
theorem Zg(h:dm af w K aH n e ρ H (λv a=>bN af w K aH n ms (upd ρ i v) a Q X) X):bN af w K aH n (.bq i e::ms) ρ H Q X:=h
theorem Zu(h:dm af w K aH n e ρ H (λv b=>dm af w K aH n o ρ b (λx c=>kX x k v c λa=>bN af w K aH n ms ρ a Q X) X) X):bN af w K aH n (.cD o k e::ms) ρ H Q X:=h
theorem ZJ(h:dm af w K aH n e ρ H (λv d=>dm af w K aH n o ρ d (λx c=>dm af w K aH n i ρ c (λj b=>wj x j v b λa=>bN af w K aH n ms ρ a Q X) X) X) X):bN af w K aH n (.hX o i e::ms) ρ H Q X:=h
theorem Zaw(h:dm af w K aH n e ρ H (λv a=>∃vs,v=.tup vs/\vs.length=is.length/\is.length<=8/\bN af w K aH n ms (Cq is vs ρ) a Q X) X):bN af w K aH n (.AF is e::ms) ρ H Q X:=h
theorem zT(h:∃u,ρ i=some u/\dm af w K aH n e ρ H (λv d=>∃a b,u=.int a/\v=.int b/\kI op u v d λr c=>bN af w K aH n ms (upd ρ i r) c Q X) X):bN af w K aH n (.pK i op e::ms) ρ H Q X:=h
theorem Zt(h:dm af w K aH n e ρ H (λv a=>Q (.ret v) ρ a) X):bN af w K aH n (dj e::ms) ρ H Q X:=h
theorem ZZ(h:dm af w K aH n e ρ H (λv a=>v=.text/\X C a) X):bN af w K aH n (.raise C e::ms) ρ H Q X:=h
theorem Zaz(h:Q .brk ρ H):bN af w K aH n (.brk::ms) ρ H Q X:=h
theorem Ze(h:Q .next ρ H):bN af w K aH n [] ρ H Q X:=h
end
def ic(af:eE)(w:bY)(K:fq)(n:Nat)(ms:List S)(Q:Fl->Loc->Hp->Prop)(X:Addr->Hp->Prop)(fl:Fl)(ρ:Loc)(H:Hp):Prop:=match fl with
 | .next=>bN af w K aH n ms ρ H Q X
 |fl=>Q fl ρ H
theorem Zp{A B:Prop}(h:A):if true=true then A else B:=h
theorem Zi{A B:Prop}(h:B):if false=true then A else B:=h
section
variable{ms:List S}{Q:Fl->Loc->Hp->Prop}
theorem Zh(h:tG af w K aH n t ρ H (λc d=>if c=true then bN af w K aH n a ρ d (ic af w K n ms Q X) X else bN af w K aH n b ρ d (ic af w K n ms Q X) X) X):bN af w K aH n (.dp t a b::ms) ρ H Q X:=h
theorem Zd(h:bN af w K aH n ms ρ H Q X):ic af w K n ms Q X .next ρ H:=h
theorem Z8(h:Q (.ret v) ρ H):ic af w K n ms Q X (.ret v) ρ H:=h
theorem Zau(h:Q .brk ρ H):ic af w K n ms Q X .brk ρ H:=h
end
theorem ZA(h:Q v H):dm af w K aH n (.cst v) ρ H Q X:=h
theorem Zc(e:ρ i=some v)(h:Q v H):dm af w K aH n (.loc i) ρ H Q X:=zj e h
theorem Zas(h:dm af w K aH n e ρ H (λv a=>fN v a λb=>Q (.bool (!b)) a) X):dm af w K aH n (.not e) ρ H Q X:=h
theorem ZC(h:dm af w K aH n a ρ H (λx d=>dm af w K aH n b ρ d (λy c=>kI op x y c Q) X) X):dm af w K aH n (.bin op a b) ρ H Q X:=h
theorem Zad(h:dm af w K aH n a ρ H (λx d=>dm af w K aH n b ρ d (λy c=>jH op x y c λt=>Q (.bool t) c) X) X):dm af w K aH n (.cmp op a b) ρ H Q X:=h
theorem Zac(h:dm af w K aH n e ρ H (λv a=>∃t,isNone v=some t/\Q (.bool (t !=neg)) a) X):dm af w K aH n (.qL e neg) ρ H Q X:=h
theorem Z6(h:dm af w K aH n e ρ H (λv a=>yo v k a λu=>Q u a) X):dm af w K aH n (.attr e k) ρ H Q X:=h
theorem Z5(h:dm af w K aH n e ρ H (λv a=>dm af w K aH n i ρ a (λj c=>Av v j c λu=>Q u c) X) X):dm af w K aH n (.sub e i) ρ H Q X:=h
theorem Z9{lo c:Option E}(h:dm af w K aH n e ρ H (λv g=>QY af w K aH n lo ρ g (λa d=>QY af w K aH n c ρ d (λb f=>Kn v a b f Q) X) X) X):dm af w K aH n (.A4 e lo c) ρ H Q X:=h
theorem Zak(h:tG af w K aH n c ρ H (λt d=>if t=true then dm af w K aH n a ρ d Q X else dm af w K aH n b ρ d Q X) X):dm af w K aH n (.ite c a b) ρ H Q X:=h
theorem ZY(h:dm af w K aH n a ρ H (λv c=>fN v c λt=>if t=true then dm af w K aH n b ρ c Q X else Q v c) X):dm af w K aH n (.and [a,b]) ρ H Q X:=h
theorem Zal(h:dm af w K aH n a ρ H (λv d=>fN v d λt=>if t=true then dm af w K aH n (.and [b,c]) ρ d Q X else Q v d) X):dm af w K aH n (.and [a,b,c]) ρ H Q X:=h
theorem i7(l:dO es.length 100=true)(h:hM af w K aH n es ρ H (λvs a=>Q (.tup vs) a) X):dm af w K aH n (.tup es) ρ H Q X:=⟨aE l,h⟩
theorem eR(l:dO es.length 100=true)(h:hM af w K aH n es ρ H (λvs a=>∀c,a c=none->Q (.ref c) (upd a c (.list vs))) X):dm af w K aH n (.lst es) ρ H Q X:=⟨aE l,h⟩
theorem Zq(h:hM af w K aH n es ρ H (λvs a=>aZ af w K n f vs a Q X) X):dm af w K aH n (.call (.fn f) es) ρ H Q X:=h
theorem ZQ(h:hM af w K aH n es ρ H (λvs b=>∀a,b a=none->aZ af w K n f (.ref a::vs) (upd b a (.inst C [])) (λr c=>r=.none/\Q (.ref a) c) X) X):dm af w K aH n (.call (.cls C f) es) ρ H Q X:=h
theorem ZN(h:hM af w K aH n es ρ H (λvs a=>jR .len vs a Q) X):dm af w K aH n (.call .len es) ρ H Q X:=h
theorem ZX(h:hM af w K aH n es ρ H (λvs a=>jR .bytes vs a Q) X):dm af w K aH n (.call .bytes es) ρ H Q X:=h
theorem Ld(h:∀c,H c=none->Q (.ref c) (upd H c (.c9 []))):dm af w K aH n (.call .c9 []) ρ H Q X:=⟨rfl,h⟩
theorem Zap(h:hM af w K aH n es ρ H (λvs a=>jR .sorted vs a Q) X):dm af w K aH n (.call .sorted es) ρ H Q X:=h
theorem ZL(h:hM af w K aH n es ρ H (λvs a=>jR .tuple vs a Q) X):dm af w K aH n (.call .tuple es) ρ H Q X:=h
theorem Z4(h:hM af w K aH n es ρ H (λvs a=>jR .list vs a Q) X):dm af w K aH n (.call .list es) ρ H Q X:=h
theorem Zar(h:hM af w K aH n es ρ H (λvs a=>jR .sum vs a Q) X):dm af w K aH n (.call .sum es) ρ H Q X:=h
theorem Zaq(h:hM af w K aH n es ρ H (λvs a=>jR .min vs a Q) X):dm af w K aH n (.call .min es) ρ H Q X:=h
theorem Zm(h:dm af w K aH n e ρ H (λv b=>∃a,mk? v b=some a/\PK aH a m=true/\hM af w K aH n es ρ b (λvs c=>mk? v c=some a/\ke af w K aH n v m vs c Q X) X) X):dm af w K aH n (.bp e m es) ρ H Q X:=h
section
variable{Q:List V->Hp->Prop}
theorem Zb(h:Q [] H):hM af w K aH n [] ρ H Q X:=h
theorem Za(h:dm af w K aH n e ρ H (λv a=>hM af w K aH n es ρ a (λvs c=>Q (v::vs) c) X) X):hM af w K aH n (e::es) ρ H Q X:=h
end
section
variable{Q:Bool->Hp->Prop}
theorem ZP(h:tG af w K aH n e ρ H (λb a=>Q (!b) a) X):tG af w K aH n (.not e) ρ H Q X:=h
theorem ZR(h:Dm af w K aH n true es ρ H Q X):tG af w K aH n (.and es) ρ H Q X:=h
theorem ZT(h:Dm af w K aH n false es ρ H Q X):tG af w K aH n (.or es) ρ H Q X:=h
theorem ZH(h:dm af w K aH n a ρ H (λx d=>dm af w K aH n b ρ d (λy c=>jH op x y c λt=>Q t c) X) X):tG af w K aH n (.cmp op a b) ρ H Q X:=h
theorem ZS(h:dm af w K aH n e ρ H (λv a=>∃t,isNone v=some t/\Q (t !=neg) a) X):tG af w K aH n (.qL e neg) ρ H Q X:=h
theorem Zag(e:ρ i=some v)(h:fN v H λb=>Q b H):tG af w K aH n (.loc i) ρ H Q X:=zj e h
theorem Zat(h:dm af w K aH n e ρ H (λv a=>dm af w K aH n i ρ a (λj c=>Av v j c λu=>fN u c λb=>Q b c) X) X):tG af w K aH n (.sub e i) ρ H Q X:=h
theorem Zaa(h:hM af w K aH n es ρ H (λvs a=>aZ af w K n f vs a (λv c=>fN v c λb=>Q b c) X) X):tG af w K aH n (.call (.fn f) es) ρ H Q X:=h
theorem Zav(h:dm af w K aH n e ρ H (λv d=>∃a,mk? v d=some a/\PK aH a m=true/\hM af w K aH n es ρ d (λvs c=>mk? v c=some a/\ke af w K aH n v m vs c (λv c=>fN v c λb=>Q b c) X) X) X):tG af w K aH n (.bp e m es) ρ H Q X:=h
theorem ZD(h:Q all H):Dm af w K aH n all [] ρ H Q X:=h
theorem Zn(h:tG af w K aH n e ρ H (λb a=>if b=all then Dm af w K aH n all es ρ a Q X else Q b a) X):Dm af w K aH n all (e::es) ρ H Q X:=h
end
section
variable{Q:Option Int->Hp->Prop}
theorem ZW(h:Q none H):QY af w K aH n none ρ H Q X:=h
theorem Z7(h:dm af w K aH n e ρ H (λv a=>∃k,v=.int k/\Q (some k) a) X):QY af w K aH n (some e) ρ H Q X:=h
end
theorem ie{Q:Int->Prop}(h:Q k):∃j,V.int k=.int j/\Q j:=⟨k,rfl,h⟩
theorem Zao{A B:Prop}(h:A):if true=true then A else B:=h
theorem Z2{A B:Prop}(h:B):if false=true then A else B:=h
theorem Z0{A B:Prop}(h:B):if true=false then A else B:=h
theorem ZM{A B:Prop}(h:A):if false=false then A else B:=h
section
variable{G:Bool->Prop}{a b:Int}
theorem fH(h1:a<b->G true)(h2:b<=a->G false):jH .Lt (.int a) (.int b) H G:=by
 show G (decide (a<b))
 by_cases q:a<b
 ·erw[aj (decide_eq_true q),<-h1 q]
 ·erw[aj (decide_eq_false q),<-h2 (fj.mp q)]
theorem DS(h1:a<=b->G true)(h2:b<a->G false):jH .LtE (.int a) (.int b) H G:=by
 show G (decide (a<=b))
 by_cases q:a<=b
 ·erw[aj (decide_eq_true q),<-h1 q]
 ·erw[aj (decide_eq_false q),<-h2 (mh.mp q)]
theorem j7(h1:b<a->G true)(h2:a<=b->G false):jH .Gt (.int a) (.int b) H G:=fH (H:=H) h1 h2
theorem oj(h1:b<=a->G true)(h2:a<b->G false):jH .GtE (.int a) (.int b) H G:=DS (H:=H) h1 h2
theorem cq(h1:a=b->G true)(h2:a≠b->G false):jH .Eq (.int a) (.int b) H G:=by
 show G (a==b)
 by_cases q:a=b
 ·erw[aj (beq_iff_eq.mpr q),<-h1 q]
 ·erw[aj (beq_eq_false_iff_ne.mpr q),<-h2 q]
theorem d_(e:decide (a=b)=false)(h:G false):jH .Eq (.int a) (.int b) H G:=cq (λz=>absurd z (of_decide_eq_false e)) λ_=>h
theorem wF(h1:a=b->G false)(h2:a≠b->G true):jH .NotEq (.int a) (.int b) H G:=cq h1 h2
end
section
variable{Q:V->Prop}{a:Addr}{C:Addr}{fs:List (Nat×V)}{k:Nat}{v:V}{vs:List V}
theorem aO(h:H a=some (.inst C fs))(b:aB k 27=true)(c:AM fs k=some v)(q:Q v):yo (.ref a) k H Q:=by
 exact Hv h ⟨aE b,v,c,q⟩
theorem bQ{Q:Hp->Prop}(h:H a=some (.inst C fs))(b:aB k 27=true)(hl:dO fs.length 100=true)(q:Q (upd H a (.inst C (xD fs k v)))):kX (.ref a) k v H Q:=by
 exact Hv h ⟨aE b,aE hl,q⟩
theorem o7{P:MK->Prop}(h:H a=some (.list vs))(q:P .list):∃b,mk? (.ref a) H=some b/\P b:=⟨_,by unfold mk?;dsimp only;erw[aj h];rfl,q⟩
theorem Ub{P:MK->Prop}(h:H a=some (.c9 b))(q:P .c9):∃c,mk? (.ref a) H=some c/\P c:=⟨_,by unfold mk?;dsimp only;erw[aj h];rfl,q⟩
theorem fy{P:MK->Prop}(h:H a=some (.inst C fs))(q:P (.inst C)):∃b,mk? (.ref a) H=some b/\P b:=⟨_,by unfold mk?;dsimp only;erw[aj h];rfl,q⟩
theorem Iq{P:MK->Prop}(q:P .bytes):∃a,mk? (.bytes []) H=some a/\P a:=⟨_,rfl,q⟩
end
section
variable{a:Addr}{C:Addr}{fs:List (Nat×V)}{m:Nat}{v:V}{vs args:List V}
theorem qV(h:H a=some (.list vs))(l:vs.length<=100000)(q:Q .none (upd H a (.list (vs++[v])))):mk? (.ref a) H=some .list/\ke af w K aH n (.ref a) 0 [v] H Q X:=by
 constructor
 ·unfold mk?;dsimp only;erw[aj h];rfl
 ·unfold ke;dsimp only;erw[aj h,<-⟨l,.inl ⟨rfl,_,rfl,q⟩⟩]
theorem QP(h:H a=some (.list vs))(l:vs.length<=100000)(b:0<=i)(e:vs[i.toNat]?=some v)(q:Q v (upd H a (.list (vs.eraseIdx i.toNat)))):mk? (.ref a) H=some .list/\ke af w K aH n (.ref a) 1 [.int i] H Q X:=by
 constructor
 ·unfold mk?;dsimp only;erw[aj h];rfl
 ·unfold ke;dsimp only;erw[aj h,<-⟨l,.inr ⟨rfl,_,_,rfl,b,e,q⟩⟩]
theorem AD(h:H a=some (.c9 b))(l:b.length<=100000)(d:0<=i)(c:i<256)(q:Q .none (upd H a (.c9 (b++[cM i.toNat])))):mk? (.ref a) H=some .c9/\ke af w K aH n (.ref a) 0 [.int i] H Q X:=by
 constructor
 ·unfold mk?;dsimp only;erw[aj h];rfl
 ·unfold ke;dsimp only;erw[aj h,<-⟨l,.inl ⟨rfl,_,rfl,d,c,q⟩⟩]
theorem Fo(h:H a=some (.c9 b))(l:b.length<=100000)(d:c.length<=100000)(q:Q .none (upd H a (.c9 (b++c)))):mk? (.ref a) H=some .c9/\ke af w K aH n (.ref a) 2 [.bytes c] H Q X:=by
 constructor
 ·unfold mk?;dsimp only;erw[aj h];rfl
 ·unfold ke;dsimp only;erw[aj h,<-⟨l,.inr ⟨rfl,_,rfl,d,q⟩⟩]
theorem bt(h:H a=some (.inst C fs))(e:aH.bp C m=some f)(q:aZ af w K n f (.ref a::args) H Q X):mk? (.ref a) H=some (.inst C)/\ke af w K aH n (.ref a) m args H Q X:=by
 constructor
 ·unfold mk?;dsimp only;erw[aj h];rfl
 ·unfold ke;dsimp only;erw[aj h,<-⟨f,e,q⟩]
theorem M_(h:H a=some (.list vs))(e:ql vs=some b)(l:vs.length<=1000)(c:b.length<=100000)(q:Q (.bytes b) H):mk? (.bytes []) H=some .bytes/\ke af w K aH n (.bytes []) 3 [.ref a] H Q X:=by
 constructor
 ·rfl
 ·exact⟨rfl,rfl,gM h ⟨b,e,l,c,q⟩⟩
theorem dW(h:H a=some (.list vs))(l:vs.length<=100000)(q:Q (.int vs.length) H):jR .len [.ref a] H Q:=gM h ⟨l,q⟩
theorem fe(l:b.length<=1000000)(q:Q (.int b.length) H):jR .len [.bytes b] H Q:=⟨l,q⟩
theorem vx(h:H a=some (.list vs))(e:lh vs=some l)(r:∀i∈l,0<=i/\i<256)(z:l.length<=1000)(q:Q (.bytes (toBytes l)) H):jR .bytes [.ref a] H Q:=by
 show(match H a with|some (.c9 b)=>b.length<=1000000/\Q (.bytes b) H|_=>jZ H a λvs=>∃l,lh vs=some l/\(∀i∈l,0<=i/\i<256)/\l.length<=1000/\Q (.bytes (toBytes l)) H);erw[aj h,<-gM h ⟨l,e,r,z,q⟩]
theorem MD(h:H a=some (.c9 b))(l:b.length<=1000000)(q:Q (.bytes b) H):jR .bytes [.ref a] H Q:=by
 show(match H a with|some (.c9 b)=>b.length<=1000000/\Q (.bytes b) H|_=>jZ H a λvs=>∃l,lh vs=some l/\(∀i∈l,0<=i/\i<256)/\l.length<=1000/\Q (.bytes (toBytes l)) H);erw[aj h,<-⟨l,q⟩]
end
section
variable{a b:Int}{G:Bool->Prop}
theorem Zw(q:Q (.int (a+b)) H):kI .Add (.int a) (.int b) H Q:=q
theorem Z3(q:Q (.int (a-b)) H):kI .Sub (.int a) (.int b) H Q:=q
theorem Zam(q:Q (.int (gE a b)) H):kI .BitAnd (.int a) (.int b) H Q:=q
theorem Zax(q:Q (.int (jj a b)) H):kI .BitOr (.int a) (.int b) H Q:=q
theorem fM(l:x.length+y.length<=1000000)(q:Q (.bytes (x++y)) H):kI .Add (.bytes x) (.bytes y) H Q:=⟨l,q⟩
theorem Dk{xs ys:List V}(h1:H x=some (.list xs))(h2:H y=some (.list ys))(l:xs.length+ys.length<=100000)(q:∀c,H c=none->Q (.ref c) (upd H c (.list (xs++ys)))):kI .Add (.ref x) (.ref y) H Q:=by
 exact gM h1 (gM h2 ⟨l,q⟩)
theorem dI(h:aB 0 y=true)(q:Q (.int ((x%y:Nat):Int)) H):kI .Mod (.int (x:Int)) (.int (y:Int)) H Q:=by
 have h:=aE h;erw[<-⟨T7 h,?_⟩,aj (DB _ (d0 y)),<-q]
theorem dT(h:aB 0 y=true)(a:x<2^400)(b:dO y 1000000=true)(q:Q (.int ((x / y:Nat):Int)) H):kI .FloorDiv (.int (x:Int)) (.int (y:Int)) H Q:=by
 have h:=aE h;erw[<-⟨a,aK (aE b) (a_ (dc rfl) (d3 (dc rfl) (dc rfl):2^20<=2^400)),T7 h,?_⟩,aj (pe _ (d0 y)),<-q]
theorem Zx{b:Bool}(q:G b):fN (.bool b) H G:=q
theorem FJ(h:H x=some (.list vs))(l:vs.length<=100000)(q:G (!vs.isEmpty)):fN (.ref x) H G:=gM h ⟨l,q⟩
theorem lg(e:isNone v=some t)(q:G t):∃t,isNone v=some t/\G t:=⟨t,e,q⟩
theorem ax(h:H x=some (.list vs))(l:vs.length<=100000)(e:MC vs i=some v)(q:P v):Av (.ref x) (.int i) H P:=gM h ⟨l,v,e,q⟩
theorem mw(l:x.length<=1000000)(a:0<=i)(e:x[i.toNat]?=some u)(q:P (.int u.toNat)):Av (.bytes x) (.int i) H P:=⟨l,a,u,e,q⟩
theorem NW(l:vs.length<=100000)(a:0<=i)(e:vs[i.toNat]?=some v)(q:P v):Av (.tup vs) (.int i) H P:=⟨l,a,v,e,q⟩
theorem K3{lo h:Option Int}(h1:sP lo)(h2:sP h)(l:x.length<=1000000)(q:Q (.bytes (cut x lo h)) H):Kn (.bytes x) lo h H Q:=⟨h1,h2,l,q⟩
theorem pQ{lo a:Option Int}(h:H x=some (.list vs))(h1:sP lo)(h2:sP a)(l:vs.length<=100000)(q:∀c,H c=none->Q (.ref c) (upd H c (.list (cut vs lo a)))):Kn (.ref x) lo a H Q:=by
 erw[<-⟨h1,h2,?_⟩,<-gM h ⟨l,q⟩]
theorem jc{i:Int}(h:H x=some (.list vs))(l:vs.length<=100000)(b:0<=i)(a:i<vs.length)(q:P (upd H x (.list (vs.set i.toNat v)))):wj (.ref x) (.int i) v H P:=by
 exact gM h ⟨l,b,a,q⟩
theorem gj(h:H x=some (.list vs))(l:vs.length<=1000)(q:Q (.tup vs) H):jR .tuple [.ref x] H Q:=gM h ⟨l,q⟩
theorem qc(h:H x=some (.list vs))(l:vs.length<=1000)(q:∀c,H c=none->Q (.ref c) (upd H c (.list vs))):jR .list [.ref x] H Q:=gM h ⟨l,q⟩
theorem Px(h:H x=some (.list vs))(e:lh vs=some l)(s:l.Pairwise (· <=·))(z:l.length<64)(q:∀c,H c=none->Q (.ref c) (upd H c (.list vs))):jR .sorted [.ref x] H Q:=gM h ⟨l,e,s,z,q⟩
theorem HI(h:H x=some (.list vs))(e:lh vs=some l)(z:l.length<=1000)(q:Q (.int l.sum) H):jR .sum [.ref x] H Q:=gM h ⟨l,e,z,q⟩
theorem Zan(q:Q (.int (min a b)) H):jR .min [.int a,.int b] H Q:=q
end
theorem vd(l:dO ps.length 8=true)(h:hM af w K aH n ps ρ H (λvs a=>(∀v∈vs,∃i,v=.int i/\big i)/\Q .text a) X):dm af w K aH n (.text ps) ρ H Q X:=⟨aE l,h⟩
theorem tx1{Q:Prop}(b:big i)(h:Q):(∀v∈[V.int i],∃i,v=.int i/\big i)/\Q:=by
 erw[<-⟨λv a=>?_,h⟩,aj (aR.mp a),<-⟨_,rfl,b⟩]
theorem tx2{Q:Prop}(b:big i)(c:big j)(h:Q):(∀v∈[V.int i,V.int j],∃i,v=.int i/\big i)/\Q:=by
 refine⟨λv hv=>?_,h⟩;rcases bE.mp hv with e|hv
 ·erw[aj e,<-⟨_,rfl,b⟩]
 ·erw[aj (aR.mp hv),<-⟨_,rfl,c⟩]
theorem vB{Q:Prop}(h:Q):a=a/\Q:=⟨rfl,h⟩
theorem bC{A P:MK->Prop}(h:H a=some (.inst C fs))(k:A (.inst C))(q:P (.inst C)):∃b,mk? (.ref a) H=some b/\A b/\P b:=fy h ⟨k,q⟩
theorem mr{A P:MK->Prop}(h:H a=some (.c9 b))(k:A .c9)(q:P .c9):∃c,mk? (.ref a) H=some c/\A c/\P c:=Ub h ⟨k,q⟩
theorem wM{A P:MK->Prop}(h:H a=some (.list b))(k:A .list)(q:P .list):∃c,mk? (.ref a) H=some c/\A c/\P c:=o7 h ⟨k,q⟩
theorem zt{Q:Fl->Loc->Hp->Prop}(h1:ρ i=some u)(h:dm af w K aH n e ρ H (λv d=>∃a b,u=.int a/\v=.int b/\kI op u v d λr c=>bN af w K aH n ms (upd ρ i r) c Q X) X):bN af w K aH n (.pK i op e::ms) ρ H Q X:=⟨_,h1,h⟩
def rd(m:E)(ρ:Loc)(v:V):Prop:=match m with
 | .cst c=>c=v
 | .loc i=>ρ i=some v
 |_=>False
theorem HE(h:rd m ρ v):dm af w K aH n m ρ H Q X ↔ Q v H:=by
 induction m using E.casesOn with
 |cst c=>have h:=h;subst h;exact Iff.rfl
 |loc i=>
  exact⟨λq=>by erw[ay (zi q),(u e q)];rw[h] at e;injection e with e;subst e;exact q,λq=>zj h q⟩
 |_=>exact h.elim
theorem fQ(h:rd m ρ v)(q:Q v H):dm af w K aH n m ρ H Q X:=(HE h).mpr q
theorem Iz{Q:V->V->Hp->Prop}(h:rd m ρ v):(λ(x:V) H=>dm af w K aH n m ρ H (Q x) X)=λx H=>Q x v H:=funext λx=>funext λH=>propext (HE h)
theorem Zs(h1:rd a ρ u)(h2:rd b ρ v)(q:kI op u v H Q):dm af w K aH n (.bin op a b) ρ H Q X:=ZC (fQ h1 (fQ h2 q))
theorem ZI(h1:rd a ρ u)(q:dm af w K aH n b ρ H (λy c=>kI op u y c Q) X):dm af w K aH n (.bin op a b) ρ H Q X:=ZC (fQ h1 q)
theorem Zv(h2:rd b ρ v)(q:dm af w K aH n a ρ H (λx c=>kI op x v c Q) X):dm af w K aH n (.bin op a b) ρ H Q X:=by
 show dm af w K aH n a ρ H (λx c=>dm af w K aH n b ρ c (λy d=>kI op x y d Q) X) X;erw[aj (Iz h2),<-q]
theorem Zay(h1:rd a ρ u)(h2:rd b ρ v)(q:jH op u v H λt=>Q (.bool t) H):dm af w K aH n (.cmp op a b) ρ H Q X:=Zad (fQ h1 (fQ h2 q))
theorem Zah(h2:rd b ρ v)(q:dm af w K aH n a ρ H (λx c=>jH op x v c λt=>Q (.bool t) c) X):dm af w K aH n (.cmp op a b) ρ H Q X:=by
 show dm af w K aH n a ρ H (λx c=>dm af w K aH n b ρ c (λy d=>jH op x y d λt=>Q (.bool t) d) X) X;erw[aj (Iz h2),<-q]
theorem Zf(h1:rd a ρ u)(h2:rd b ρ v)(q:Av u v H λx=>Q x H):dm af w K aH n (.sub a b) ρ H Q X:=Z5 (fQ h1 (fQ h2 q))
theorem Zo(h2:rd b ρ v)(q:dm af w K aH n a ρ H (λx c=>Av x v c λu=>Q u c) X):dm af w K aH n (.sub a b) ρ H Q X:=by
 show dm af w K aH n a ρ H (λx c=>dm af w K aH n b ρ c (λy d=>Av x y d λu=>Q u d) X) X;erw[aj (Iz h2),<-q]
theorem Zl(h1:rd o ρ u)(q:yo u k H λx=>Q x H):dm af w K aH n (.attr o k) ρ H Q X:=Z6 (fQ h1 q)
theorem ZG(h1:rd a ρ u)(q:jR .len [u] H Q):dm af w K aH n (.call .len [a]) ρ H Q X:=ZN (Za (fQ h1 (Zb q)))
theorem Zz(h1:rd a ρ u)(q:aZ af w K n f [u] H Q X):dm af w K aH n (.call (.fn f) [a]) ρ H Q X:=Zq (Za (fQ h1 (Zb q)))
theorem ZU(h1:rd a ρ u)(h2:rd b ρ v)(q:aZ af w K n f [u,v] H Q X):dm af w K aH n (.call (.fn f) [a,b]) ρ H Q X:=Zq (Za (fQ h1 (Za (fQ h2 (Zb q)))))
theorem Zaj(h1:rd a ρ u)(h2:rd b ρ v)(h3:rd c ρ x)(q:aZ af w K n f [u,v,x] H Q X):dm af w K aH n (.call (.fn f) [a,b,c]) ρ H Q X:=Zq (Za (fQ h1 (Za (fQ h2 (Za (fQ h3 (Zb q)))))))
section
variable{Q:List V->Hp->Prop}
theorem Zr(h1:rd a ρ u)(q:hM af w K aH n es ρ H (λvs c=>Q (u::vs) c) X):hM af w K aH n (a::es) ρ H Q X:=Za (fQ h1 q)
theorem ZF(h1:rd a ρ u)(q:Q [u] H):hM af w K aH n [a] ρ H Q X:=Za (fQ h1 (Zb q))
theorem ZE(h1:rd a ρ u)(h2:rd b ρ v)(q:Q [u,v] H):hM af w K aH n [a,b] ρ H Q X:=Za (fQ h1 (Za (fQ h2 (Zb q))))
theorem Zaf(h1:rd a ρ u)(h2:rd b ρ v)(h3:rd c ρ x)(h4:rd d ρ y)(q:Q [u,v,x,y] H):hM af w K aH n [a,b,c,d] ρ H Q X:=Za (fQ h1 (Za (fQ h2 (Za (fQ h3 (Za (fQ h4 (Zb q))))))))
end
section
variable{Q:Bool->Hp->Prop}
theorem Zj(h1:rd a ρ u)(h2:rd b ρ v)(q:jH op u v H λt=>Q t H):tG af w K aH n (.cmp op a b) ρ H Q X:=ZH (fQ h1 (fQ h2 q))
theorem Zy(h2:rd b ρ v)(q:dm af w K aH n a ρ H (λx c=>jH op x v c λt=>Q t c) X):tG af w K aH n (.cmp op a b) ρ H Q X:=by
 show dm af w K aH n a ρ H (λx c=>dm af w K aH n b ρ c (λy d=>jH op x y d λt=>Q t d) X) X;erw[aj (Iz h2),<-q]
theorem Zab(h1:rd a ρ u)(q:aZ af w K n f [u] H (λv c=>fN v c λb=>Q b c) X):tG af w K aH n (.call (.fn f) [a]) ρ H Q X:=Zaa (Za (fQ h1 (Zb q)))
theorem aah(h1:rd a ρ u)(h2:rd b ρ v)(q:aZ af w K n f [u,v] H (λv c=>fN v c λb=>Q b c) X):tG af w K aH n (.call (.fn f) [a,b]) ρ H Q X:=Zaa (Za (fQ h1 (Za (fQ h2 (Zb q)))))
end
section
variable{Q:Fl->Loc->Hp->Prop}{ms:List S}
theorem ZO(h1:rd e ρ u)(q:Q (.ret u) ρ H):bN af w K aH n (dj e::ms) ρ H Q X:=Zt (fQ h1 q)
theorem Z1(h1:rd e ρ u)(q:bN af w K aH n ms (upd ρ i u) H Q X):bN af w K aH n (.bq i e::ms) ρ H Q X:=Zg (fQ h1 q)
end
theorem z_(a b:Nat):gE (a:Int) (b:Int)=((a&&& b:Nat):Int):=by
 unfold gE;have h1:=decide_eq_true (d0 a);have h2:=decide_eq_true (d0 b);erw[aj h1,aj h2];rfl
theorem B4(a b:Nat):jj (a:Int) (b:Int)=((a|||b:Nat):Int):=by
 have n:∀x:Int,nP (nP x)=x:=λx=>by unfold nP;exact da (fj.mp (λc=>ly (WI _) [((yp cN (yn 1)),(.sub (.neg (.sub (.neg cN) (yn 1))) (yn 1)))] rt c)) (fj.mp (λe=>ly (WI _) [((yp (.sub (.neg (.sub (.neg cN) (yn 1))) (yn 1)) (yn 1)),cN)] rt e))
 have f:∀x:Nat,decide (0<=nP x)=false:=λx=>decide_eq_false (by unfold nP;exact λd=>ly (WI _) [((yn 0),cN),((yn 0),(.sub (.neg cN) (yn 1)))] rt gV d);unfold jj gE;erw[aj (f a),aj (f b)];dsimp only;rw[n,n,n,aM,aM]
noncomputable def RP:Nat->Nat->List UInt8
 |0,n=>[cM n]
 |f+1,n=>if n<128 then[cM n] else cM (n%128+128)::RP f (n / 128)
@[irreducible] def vr(n:Nat):List UInt8:=RP n n
theorem zG(h:n<128):∀f,RP f n=[cM n]
 |0=>rfl
 |_+1=>if_pos h
theorem FN(h:128<=n):RP (f+1) n=cM (n%128+128)::RP f (n / 128):=if_neg (tP.mpr h)
theorem RE:∀(f g n:Nat),n<=f->n<=g->RP f n=RP g n:=λf=>by
 induction f with
 |zero=>intro g n h _;refine' aj (Nat.le_zero.mp h) ?_;rw[zG (dc rfl),zG (dc rfl)]
 |succ f i=>
  intro g n h1 h2
  by_cases q:n<128
  ·rw[zG q,zG q]
  ·have q:=bW q
   induction g using Nat.casesOn with
   |zero=>exact absurd (aF q h2) (dc rfl)
   |succ g=>refine' aj (FN q) ?_;refine' aj (FN q) ?_;refine' aj (i g (n / 128) (VB h1) (VB h2)) ?_;rfl
theorem qE(h:n<128):vr n=[cM n]:=by unfold vr;exact zG h n
theorem zH(h:128<=n):vr n=cM (n%128+128)::vr (n / 128):=by
 unfold vr
 induction n using Nat.casesOn with
 |zero=>exact absurd h (dc rfl)
 |succ n=>exact(FN h).trans (congrArg _ (RE _ _ _ (dh (Nat.div_lt_self spo (dc rfl))) qQ))
theorem Lu(n:Nat):(n&&& 127) |||128=n%128+128:=by
 erw[aj (show 127=2^7-1 from rfl)];rewrite[A6,Nat.or_comm,Nat.add_comm];have h:=Dr (show n%2^7<2^7 from fT _ (Nat.two_pow_pos 7)) 1;exact h.symm
theorem fR:∀(k n:Nat),n<128^(k+1)->(vr n).length<=k+1
 |0,n,h=>by refine' aj (qE (by simpa using h)) ?_;exact qQ
 |k+1,n,h=>by
  by_cases q:n<128
  ·erw[aj (qE q),<-rE (ia _)]
  ·erw[aj (zH (bW q)),aj aV,<-rE (fR k (n / 128) (by rw[lW (dc rfl),<-kW];exact h))]
theorem vf(n:Nat):1<=(vr n).length:=by
 by_cases q:n<128
 ·erw[aj (qE q),<-qQ]
 ·erw[aj (zH (bW q)),aj aV,<-rE (ia _)]
def Bd(af:eE)(w:bY)(K:fq)(f:Addr)(k:Nat)(ext:List V)(ms:List S):Prop:=
 ∀n args H (Q:V->Hp->Prop) (X:Addr->Hp->Prop),args.length+ext.length=k->bN af w K aH n ms (sC (args++ext)) H (λfl _ H'=>match fl with| .ret v=>Q v H'| .next=>Q .none H'| .brk=>False) X->aZ af w K (n+1) f args H Q X
def Ac(Q:V->Hp->Prop)(v:V)(H:Hp):Prop:=∃H',Ext H' H/\Q v H'
def dF(Q:V->Hp->Prop)(fl:Fl)(_:Loc)(H:Hp):Prop:=match fl with
 | .ret v=>Ac Q v H
 | .next=>Ac Q .none H
 | .brk=>False
def cG(X:Addr->Hp->Prop)(C:Addr)(H:Hp):Prop:=∃H',Ext H' H/\X C H'
structure Rd(af:eE)(w:bY)(K:fq):Prop where
 vT:Bd af w K 137 2 [] mQ
 yi:Bd af w K 144 4 [] oO
 zJ:Bd af w K 151 1 [] qd
 yf:Bd af w K 158 2 [] oP
 vY:Bd af w K 165 1 [] nk
 uT:Bd af w K 172 2 [] lI
 uo:Bd af w K 179 1 [] lK
 ur:Bd af w K 186 2 [] lD
 ye:Bd af w K 201 3 [.int 0] jd
 yF:Bd af w K 208 1 [] oN
 uk:Bd af w K 215 1 [] lL
 qt:Bd af w K 236 1 [] jS
 yz:Bd af w K 250 1 [] o5
 yB:Bd af w K 264 1 [] oF
 BB:Bd af w K 285 1 [] rS
 yO:Bd af w K 292 2 [] oR
 uu:Bd af w K 313 2 [] lJ
 BH:Bd af w K 327 2 [] sM
 BE:Bd af w K 341 1 [] s6
 rising:Bd af w K 355 1 [] Am
 AO:Bd af w K 362 1 [] qr
 AA:Bd af w K 376 5 [] pU
 BN:Bd af w K 383 1 [] sO
 AE:Bd af w K 390 1 [] pM
 uH:Bd af w K 397 1 [] lE
 Ah:Bd af w K 404 1 [] pZ
 vX:Bd af w K 418 1 [] nq
 wQ:Bd af w K 425 1 [] ny
 zS:Bd af w K 432 2 [] qf
 sX:Bd af w K 446 6 [] kj
 uz:Bd af w K 453 1 [] lO
 sk:Bd af w K 460 1 [] ko
 Hu:Bd af w K 474 2 [] xK
 EH:Bd af w K 481 1 [] vm
 yt:Bd af w K 488 1 [] oS
 yx:Bd af w K 495 1 [] oD
 uN:Bd af w K 509 5 [] lG
 wo:Bd af w K 516 1 [] mP
 uK:Bd af w K 530 1 [] lT
 qP:Bd af w K 544 1 [] jO
 qw:Bd af w K 551 1 [] jT
 wV:Bd af w K 565 5 [] mV
 yr:Bd af w K 570 1 [] oM
 wJ:Bd af w K 575 1 [] mK
 sL:Bd af w K 589 1 [] kn
 rQ:Bd af w K 596 1 [] kN
 v8:Bd af w K 610 7 [] mZ
 yk:Bd af w K 617 1 [] oV
 tn:Bd af w K 624 1 [] km
 BO:Bd af w K 638 2 [] sg
 zR:Bd af w K 645 1 [] pP
 s_:Bd af w K 652 1 [] kK
 uD:Bd af w K 666 2 [] lC
 md:Bd af w K 687 2 [] hU
 mR:Bd af w K 694 3 [] iF
 hK:Bd af w K 715 2 [] eY
 uC:Bd af w K 722 3 [] lF
 vQ:Bd af w K 729 1 [] mO
 K5:Bd af w K 743 2 [] sA
 Nb:Bd af w K 750 1 [] rJ
 EZ:Bd af w K 757 1 [] o8
 K0:Bd af w K 764 1 [] sV
 QN:Bd af w K 769 1 [] vz
 KX:Bd af w K 776 1 [] ti
 Iw:Bd af w K 783 2 [] pT
 wB:Bd af w K 790 2 [] jI
 Ht:Bd af w K 797 1 [] qk
 MU:Bd af w K 804 3 [] u7
 Fy:Bd af w K 811 3 [] sG
 B3:Bd af w K 818 1 [] mS
 wI:Bd af w K 825 1 [] jQ
 KO:Bd af w K 832 1 [] rM
 HK:Bd af w K 837 3 [] qs
 pA:Bd af w K 844 2 [] nt
 NG:Bd af w K 849 1 [] s8
 B7:Bd af w K 854 1 [] m_
 uE:Bd af w K 859 1 [] jr
 AK:Bd af w K 864 1 [] lN
 rO:Bd af w K 871 1 [] iU
 HH:Bd af w K 878 1 [] qp
 QQ:Bd af w K 885 3 [] u9
 Hk:Bd af w K 892 2 [] pW
 NT:Bd af w K 899 3 [] sT
 BU:Bd af w K 906 1 [] mW
 HG:Bd af w K 913 1 [] pO
 oi:Bd af w K 920 1 [] gQ
 sJ:Bd af w K 925 3 [] iV
 wq:Bd af w K 932 3 [] jM
 DT:Bd af w K 939 3 [] oQ
 Ak:Bd af w K 946 2 [] lH
 qJ:Bd af w K 953 3 [] iA
 pj:Bd af w K 960 2 [] hW
 lZ:Bd af w K 967 2 [] f_
 Hw:Bd af w K 972 2 [] qm
 uy:Bd af w K 977 4 [] jo
 rK:Bd af w K 982 2 [] iT
 Km:Bd af w K 989 7 [] tg
 law:Bd af w K 994 1 [] HJ
theorem Bd.to(b:Bd af w K f k ext ms)(hl:args.length+ext.length=k)(a:aB d n=true)(h:∀n,dO d n=true->bN af w K aH n ms (sC (args++ext)) H (dF Q) (cG X)):aZ af w K n f args H Q X:=by
 have a:=aE a
 induction n using Nat.casesOn with
 |zero=>exact absurd a (uh _)
 |succ n=>
  exact(b n args H (Ac Q) (cG X) hl (h n (d4.mpr (dh a)))).mono (λv c q=>q) λC c q=>q
theorem bH(e:Ext H' H)(q:Q v H'):Ac Q v H:=⟨H',e,q⟩
theorem cR(e:Ext H' H)(q:Q .none H'):Ac Q .none H:=⟨H',e,q⟩
theorem xf(e:Ext H' H)(q:X C H'):cG X C H:=⟨H',e,q⟩
theorem lv(h:dO d n=true)(k:aB e d=true):aB e n=true:=d4.mpr (aF (aE k) (aE h))
def HU(af:eE)(w:bY)(K:fq)(n:Nat)(ms:List S)(Q:Fl->Loc->Hp->Prop)(X:Addr->Hp->Prop)(P:Loc->Hp->Prop)(fl:Fl)(ρ:Loc)(H:Hp):Prop:=match fl with
 | .next=>P ρ H
 | .brk=>bN af w K aH n ms ρ H Q X
 | .ret v=>Q (.ret v) ρ H
theorem CM{Q:Fl->Loc->Hp->Prop}(h:∀P:Loc->Hp->Prop,(∀ρ H,tG af w K aH n t ρ H (λc a=>if c=true then bN af w K aH n b ρ a (HU af w K n ms Q X P) X else bN af w K aH n ms ρ a Q X) X->P ρ H)->P ρ H):
  bN af w K aH n (.o9 t b::ms) ρ H Q X:=λP d=>h P d
theorem CQ{Q:Fl->Loc->Hp->Prop}(h:P ρ H):HU af w K n ms Q X P .next ρ H:=h
theorem Wc(m:Nat):(m:Int).fdiv (2^Int.toNat 7)=((m / 128:Nat):Int):=by
 erw[aj (pe _ (dc rfl))];rfl
def rG(n:Int):Prop:=0<=n/\n<=18446744073709551615
theorem nB(h:H a=some x):upd H a x=H:=funext λb=>by
 unfold upd
 by_cases e:b=a
 ·erw[aj (if_pos e),aj e,aj h];rfl
 ·erw[aj (if_neg e)];rfl
theorem Pw(j:∀ρ H,tG af w K aH n (.cmp .GtE aN (ek 128)) ρ H (λt o=>if t=true then bN af w K aH n [.expr (.bp dC 0 [(.bin .BitOr (.bin .BitAnd aN (ek 127)) (ek 128))]),.pK 0 .RShift (ek 7)] ρ o (HU af w K n ms F X P) X else bN af w K aH n ms ρ o F X) X->P ρ H):
  ∀(k m:Nat)(a:List UInt8)(ρ:Loc)(H:Hp),m<128^(k+1)->a.length+k<=100->ρ 0=some (.int m)->ρ 2=some (.ref c)->H c=some (.c9 a)->
   (∀(l:Nat)(C:List UInt8)(e:Loc),l<128->e 0=some (.int l)->e 2=some (.ref c)->C.length<=100->C++[cM l]=a++vr m->bN af w K aH n ms e (upd H c (.c9 C)) F X)->P ρ H:=by
 intro k;have b:∀m a ρ H,m<128->a.length<=100->ρ 0=some (.int m)->ρ 2=some (.ref c)->H c=some (.c9 a)->
   (∀l C e,l<128->e 0=some (.int l)->e 2=some (.ref c)->C.length<=100->C++[cM l]=a++vr m->bN af w K aH n ms e (upd H c (.c9 C)) F X)->P ρ H:=λm a ρ H d f h0 h2 g i=>by
  erw[j ρ H,Zy rfl,<-Zc h0 ?_,<-oj (λh=>absurd h (So d)) (λh=>?_),Zi];have:=i m a ρ d h0 h2 f (aj (qE d) rfl)
  rwa [nB g] at this
 induction k with
 |zero=>exact λm a ρ H d f=>b m a ρ H (by simpa using d) (zwd f rfl)
 |succ k p=>
  intro m a ρ H d f h0 h2 g i
  by_cases h:m<128
  ·exact b m a ρ H h (fp [(zp av aX,zn 100)] (av,zn 100) rt f) h0 h2 g i
  ·erw[j ρ H,Zy rfl,<-Zc h0 ?_,<-oj (λ_=>?_) (λq=>absurd q (YL h)),Zp,Zk,Zm,<-Zc h2 ?_,mr g rfl,Za,Zv rfl,Zv rfl,<-Zc h0 ?_,Zam,Zax,Zb];refine' aj (show(jj (gE m 127) 128)=(m%128+128:Nat) from by
    rw[<-Lu];exact(congrArg (jj · 128) (z_ m 127)).trans (B4 _ 128)) ?_
   erw[AD g (fp [(zp av aX,zn 100)] (av,zn 100000) rt f) (aw.mpr (dK [] (zn 0,av) rt)) (aU.mpr (dK [(zs av,zn 128)] (zs (zk av 128),zn 256) rt kv)),zt h0,ZA,<-⟨_,_,rfl,rfl,⟨by decide,?_⟩⟩];rw[Wc];erw[Ze,<-CQ (p (m / 128) (a++[cM (m%128+128)]) _ _ (by rw[lW (dc rfl),<-kW];exact d) (aj ah (aj aW (fp [(zp av (zs aX),zn 100)] (zp (zs av) aX,zn 100) rt f))) rfl h2 us λl C e x v u s r=>?_)];rw[bR];exact i l C e x v u s (by erw[aj r,aj (zH (bW h))];rewrite[aC];rfl)
theorem eO{n:Int}(h:rG n):∃m:Nat,n=m/\m<2^64:=⟨n.toNat,by have:=h.1;exact da (oE [(cN,dX)] (cN,dX) rt (iN _)) (oE [(cN,dX)] (cN,dX) rt (aG (gT (oZ [(yn 0,cN)] (yn 0,cN) rt this)))),(zy h.1).mpr (ik h.2 (dc rfl))⟩
theorem dv{n:Int}(h:n.natAbs<2^100):big n:=a_ h (d3 (dc rfl) (dc rfl))
theorem Pq:big 18446744073709551615:=dv (dc rfl)
theorem qW(R:Rd af w K)(u:big m)(e:most<2^64)(b:aB 0 n=true)(q:∀k:Nat,m=k->k<=most->Q (.bytes (vr k)) H)(x:¬(0<=m/\m<=most)->X 80 H):aZ af w K n 137 [.int m,.int (most:Int)] H Q X:=by
 erw[R.vT.to rfl b,(n b)];have j:=dv (by rw[cT];exact b_ e (dc rfl));erw[Zh,ZT,Zn,Zj rfl rfl,<-fH (λh=>?_) (λh=>?_)]
 ·erw[Z0,Zp,ZZ,vd rfl,ZE rfl rfl,tx2 ‹_› ‹_›,vB,<-xf Ext.refl (x λy=>absurd h (fj.mpr y.1))]
 ·erw[ZM,Zn,Zj rfl rfl,<-j7 (λa=>?_) (λa=>?_)]
  ·erw[Z0,Zp,ZZ,vd rfl,ZE rfl rfl,tx2 ‹_› ‹_›,vB,<-xf Ext.refl (x λy=>absurd a (fj.mpr y.2))]
  ·erw[ZM,ZD,Zi,Ze,Zd,Zg,Ld,(c i),CM,(P o),bf (j4 h),(k p)];subst p;have d:k<=most:=by exact Tp a
   erw[Pw o 9 k [] _ _ (aK d (a_ e (dc rfl))) (dc rfl) rfl rfl us,(l z v t s g f r)];rw[bR];erw[Zk,Zm,<-Zc g ?_,mr us rfl,<-ZF s ?_,AD us (dM f rfl) (aw.mpr (dK [] (zn 0,av) rt)) (aU.mpr (dK [(zs av,zn 128)] (zs av,zn 256) rt t)),Zt,ZX,<-ZF g ?_];rw[bR];erw[MD us (aj ah (aj aW (OV f rfl)))];rewrite[aM];erw[aj r,<-bH (Ext.fresh Ext.refl i) (q k rfl d)]
def vi(n:Int):List UInt8:=vr n.toNat
theorem gN(k:Nat):vi (k:Int)=vr k:=by unfold vi;rw[aM]
theorem eJ{n:Int}(h:rG n):(vi n).length<=10:=fR 9 _ (by exact(zy h.1).mpr (ik h.2 (dc rfl)))
theorem GQ(h0:0<=m)(h:m<128):toBytes [m]=vi m:=by
 unfold vi;erw[aj (qE (VO h))];rfl
theorem Bc(R:Rd af w K)(d:big m)(b:aB 1 n=true)(q:rG m->Q (.bytes (vi m)) H)(x:¬rG m->X 80 H):aZ af w K n 151 [.int m] H Q X:=by
 erw[R.zJ.to rfl b,(n b)];have r:aZ af w K n 137 [.int m,.int 18446744073709551615] H (λv l=>dF Q (Fl.ret v) (sC ([.int m]++[])) l) (cG X):=by
  refine qW R d (dc rfl) (lv b rfl) (λk e f=>bH Ext.refl ?_) (λh=>xf Ext.refl (x h));subst e;have:=q ⟨gV,aw.mpr (dK [(av,zn 18446744073709551615)] (av,zn 18446744073709551615) rt f)⟩
  rwa [gN] at this
 erw[Zh,ZR,Zn,Zj rfl rfl,<-oj (λh=>?_) (λh=>?_)]
 ·erw[Zp,Zn,Zj rfl rfl,<-fH (λa=>?_) (λa=>?_)]
  ·erw[Zp,ZD,Zp,Zt,ZX,Za,eR rfl,ZF rfl,(c j),Zb,vx us rfl (λi g=>?_) (aE rfl)]
   ·erw[aj (aR.mp g),<-⟨h,X0 a⟩]
   ·erw[aj (GQ h a),<-bH (Ext.fresh Ext.refl j) (q ⟨h,Xi a⟩)]
  ·erw[Zi,Zi,Ze,Zd,Zt,ZU rfl rfl,<-r]
 ·erw[Zi,Zi,Ze,Zd,Zt,ZU rfl rfl,<-r]
theorem yZ(R:Rd af w K)(d:m<2^20)(a:aB 1 n=true)(q:Q (.bytes (vr m)) H):aZ af w K n 165 [.int (m:Int)] H Q X:=by
 erw[R.vY.to rfl a,(n a)];have r:aZ af w K n 137 [.int m,.int 4294967295] H (λv j=>dF Q (Fl.ret v) (sC ([.int m]++[])) j) (cG X):=by
  erw[<-qW R (dv (by rw[cT];exact b_ d (dc rfl))) (dc rfl) (lv a rfl) (λk e l=>bH Ext.refl ?_) (λh=>absurd ⟨gV,aw.mpr (dK [(zs av,zn 1048576)] (av,zn 4294967295) rt d)⟩ h),aj (show k=m by exact aS (fp [(av,aX)] (av,aX) rt (aa (ao (fF e)))) (fp [(av,aX)] (av,aX) rt (aa (fF e)))),<-q]
 erw[Zh,ZR,Zn,Zj rfl rfl,<-oj (λh=>?_) (λh=>absurd h Mz),Zp,Zn,Zj rfl rfl,<-fH (λb=>?_) (λb=>?_)]
 ·erw[Zp,ZD,Zp,Zt,ZX,Za,eR rfl,ZF rfl,(c g),Zb,vx us rfl (λi f=>?_) (aE rfl)]
  ·erw[aj (aR.mp f),<-⟨h,X0 b⟩]
  ·erw[aj (GQ h b)];rewrite[gN];exact bH (Ext.fresh Ext.refl g) q
 ·erw[Zi,Zi,Ze,Zd,Zt,ZU rfl rfl,<-r]
theorem O9(f:∀ρ H,tG af w K aH n (.cmp .GtE aN (ek 128)) ρ H (λt i=>if t=true then bN af w K aH n [.pK 0 .RShift (ek 7),.pK 1 .Add (ek 1)] ρ i (HU af w K n ms F X P) X else bN af w K aH n ms ρ i F X) X->P ρ H):
  ∀(k m c:Nat)(ρ:Loc)(H:Hp),m<128^(k+1)->ρ 0=some (.int m)->ρ 1=some (.int c)->
   (∀(e:Loc)(a:Nat),e 1=some (.int a)->a+1=c+(vr m).length->bN af w K aH n ms e H F X)->P ρ H:=by
 intro k;have l:∀m c ρ H,m<128->ρ 0=some (.int m)->ρ 1=some (.int c)->
   (∀e a,e 1=some (.int a)->a+1=c+(vr m).length->bN af w K aH n ms e H F X)->P ρ H:=λm c ρ H b h0 h1 d=>by
  erw[f ρ H,Zy rfl,<-Zc h0 ?_,<-oj (λh=>absurd h (So b)) (λh=>?_),Zi,<-d ρ c h1 (aj (qE b) rfl)]
 induction k with
 |zero=>exact λm c ρ H b=>l m c ρ H (by simpa using b)
 |succ k j=>
  intro m c ρ H b h0 h1 d
  by_cases h:m<128
  ·exact l m c ρ H h h0 h1 d
  ·erw[f ρ H,Zy rfl,<-Zc h0 ?_,<-oj (λ_=>?_) (λo=>absurd o (YL h)),Zp,zt h0,ZA,<-⟨_,_,rfl,rfl,⟨by decide,?_⟩⟩];rw[Wc];erw[<-zT ⟨_,h1,?_⟩,ZA,<-⟨_,_,rfl,rfl,?_⟩,Zw,Ze,<-CQ (j (m / 128) (c+1) _ _ (by rw[lW (dc rfl),<-kW];exact b) rfl rfl λe a p g=>?_),<-d e a p (aj (zH (n:=m) (bW h)) (aj aV (aS (gP [(av,zp (zs aX) bT)] (av,zp aX (zs bT)) rt (aa g)) (gP [(zp (zs av) aX,bT)] (zp av (zs aX),bT) rt (aa (ao g))))))]
theorem iM(R:Rd af w K)(i:big m)(b:aB 0 n=true)(q:rG m->Q (.int (vi m).length) H)(x:¬rG m->X 80 H):aZ af w K n 179 [.int m] H Q X:=by
 erw[R.uo.to rfl b,(n b)];have:=Pq;erw[Zh,ZT,Zn,Zj rfl rfl,<-fH (λh=>?_) (λh=>?_)]
 ·erw[Z0,Zp,ZZ,vd rfl,ZE rfl rfl,tx2 ‹_› ‹_›,vB,<-xf Ext.refl (x λy=>absurd h (fj.mpr y.1))]
 ·erw[ZM,Zn,Zj rfl rfl,<-j7 (λa=>?_) (λa=>?_)]
  ·erw[Z0,Zp,ZZ,vd rfl,ZE rfl rfl,tx2 ‹_› ‹_›,vB,<-xf Ext.refl (x λy=>absurd a (fj.mpr y.2))]
  ·erw[ZM,ZD,Zi,Ze,Zd,Z1 rfl,CM,(P d),bf (j4 h),(k e)];subst e;erw[O9 d 9 k 1 _ _ (by exact dK [(av,zn 18446744073709551615)] (zs av,zn 1180591620717411303424) rt (aw.mp a)) rfl rfl,(j f g c),<-ZO g ?_];have:=q ⟨h,a⟩;rw[gN,show(vr k).length=f by exact aS (fp [(zp (zn 1) av,zs aX)] (av,aX) rt (aa (ao c))) (fp [(zs av,zp (zn 1) aX)] (av,aX) rt (aa c))] at this;exact bH Ext.refl this
section
variable{G:Hp}
noncomputable def pY(p:Addr):MO:=.inst 344 [(4,.ref p)]
def tx(d:List UInt8):List UInt8:=vr d.length++d
noncomputable def fb(t:Bool):UInt8:=if t then 1 else 0
theorem fB(n:a≠b):upd (upd H a x) b y=upd (upd H b y) a x:=funext λc=>by
 unfold upd
 by_cases e:c=b
 ·erw[aj (if_pos e),aj (if_neg (λq=>n (q.symm.trans e))),aj (if_pos e)];rfl
 ·erw[aj (if_neg e)]
  by_cases d:c=a
  ·erw[aj (if_pos d),aj (if_pos d)];rfl
  ·erw[aj (if_neg d),aj (if_neg d),aj (if_neg e)];rfl
theorem FK(h:(upd G p (.c9 b)) a=some (.inst C fs)):a≠p/\G a=some (.inst C fs):=by
 by_cases e:a=p
 ·subst e;rw[cX] at h;cases h
 ·rw[dr _ _ e] at h;exact⟨e,h⟩
theorem Ap(R:Rd af w K)(c:aB 0 n=true)(q:∀a p,H a=none->H p=none->a≠p->Q (.ref a) (upd (upd H a (pY p)) p (.c9 []))):dm af w K aH n (.call (.cls 344 285) []) ρ H Q X:=by
 erw[(a e),R.BB.to rfl c,(n c),Zu,Ld,(p d),aD (bo d),(h b),Zc rfl,bQ (ae (aJ b) us) rfl rfl,<-⟨_,Ext.refl,rfl,?_⟩];have:=q a p e h (aJ b);erw[aj (fB b)];rewrite[bR];assumption
theorem sv(R:Rd af w K)(j:big m)(h:(upd G p (.c9 b)) a=some (pY p))(f:b.length<=L)(g:dO L 90000=true)(i:aB 2 n=true)(q:rG m->(b++vi m).length<=L+10->Q .none (upd G p (.c9 (b++vi m))))(x:¬rG m->X 80 (upd G p (.c9 b))):aZ af w K n 292 [.ref a,.int m] (upd G p (.c9 b)) Q X:=by
 erw[R.yO.to rfl i,(n i)];have g:=aE g;have c:aZ af w K n 151 [.int m] (upd G p (.c9 b)) (λv H=>mk? (V.ref p) H=some MK.c9/\ke af w K aH n (V.ref p) 2 [v] H (λx H=>ic af w K n [] (dF Q) (cG X) .next (sC ([.ref a,.int m]++[])) H) (cG X)) (cG X):=by
  erw[<-Bc R j (lv i rfl) (λd=>?_) (λd=>xf Ext.refl (x d)),Fo us (dM (aF f g) rfl) (by have:=eJ d;exact dM this rfl)];rw[bR];exact cR Ext.refl (q d (by erw[aj ah];have:=eJ d;exact V8 this f))
 erw[Zh,ZR,Zn,Zj rfl rfl,<-oj (λh0=>?_) (λh0=>?_)]
 ·erw[Zp,Zn,Zj rfl rfl,<-fH (λh1=>?_) (λh1=>?_)]
  ·erw[Zp,ZD,Zp,Zk,Zm,Zl rfl,aO h rfl rfl,mr us rfl,AD us (dM (aF f g) rfl) (by assumption) (oZ [(ys cN,yn 128)] (ys cN,yn 256) rt h1)];have r:rG m:=⟨h0,Xi h1⟩;rw[bR];have e:vi m=[cM m.toNat]:=by unfold vi;refine' aj (qE (VO h1)) ?_;rfl
   erw[c_ e,<-cR Ext.refl (q r (by erw[aj ah];have:=eJ r;exact V8 this f))]
  ·erw[Zi,Zi,Zk,Zm,Zl rfl,aO h rfl rfl,mr us rfl,<-c]
 ·erw[Zi,Zi,Zk,Zm,Zl rfl,aO h rfl rfl,mr us rfl,<-c]
theorem sl(R:Rd af w K)(h:(upd G p (.c9 b)) a=some (pY p))(i:b.length<=L)(g:dO L 90000=true)(e:d.length<=D)(c:dO D 9000=true)(f:aB 2 n=true)(q:(b++tx d).length<=L+(D+10)->Q .none (upd G p (.c9 (b++tx d)))):aZ af w K n 313 [.ref a,.bytes d] (upd G p (.c9 b)) Q X:=by
 erw[R.uu.to rfl f,(n f)];have g:=aE g;have c:=aE c;erw[aD (FK h),(j k)];have z:=fR 9 _ (aK (aF e c) (dc rfl));erw[aO h rfl rfl,mr us rfl,Za,Zq,Za,ZG rfl,fe (dM (aF e c) rfl),yZ R (aK (aF e c) (dc rfl)) (lv f rfl),Fo us (dM (aF i g) rfl) (dM z rfl),aO (ae j h) rfl rfl,mr us rfl];rw[bR];erw[Fo us (by erw[aj ah];lia) (dM (aF e c) rfl)];rw[bR,aC];exact cR Ext.refl (q (by unfold tx;erw[aj ah,aj ah,<-Qh [(av,zn 10),(aX,bT),(gi,r_)] (zp aX (zp av gi),zp bT (zk r_ 10)) rt z i e]))
theorem sf(R:Rd af w K)(h:(upd G p (.c9 b)) a=some (pY p))(d:b.length<=L)(c:dO L 90000=true)(f:aB 0 n=true)(q:(b++[fb t]).length<=L+1->Q .none (upd G p (.c9 (b++[fb t])))):aZ af w K n 327 [.ref a,.bool t] (upd G p (.c9 b)) Q X:=by
 erw[R.BH.to rfl f,(n f)];have c:=aE c;have e:=q (aj ah (aj aW (Ry d)))
 induction t using tW with
 |true=>
  erw[aO h rfl rfl,mr us rfl,AD us (dM (aF d c) rfl) (dc rfl) (dc rfl)];rw[bR];exact cR Ext.refl e
 |false=>
  erw[aO h rfl rfl,mr us rfl,AD us (dM (aF d c) rfl) (dc rfl) (dc rfl)];rw[bR];exact cR Ext.refl e
theorem sd(R:Rd af w K)(h:(upd G p (.c9 b)) a=some (pY p))(e:b.length<=L)(c:dO L 100000=true)(d:aB 0 n=true)(q:Q (.bytes b) (upd G p (.c9 b))):aZ af w K n 341 [.ref a] (upd G p (.c9 b)) Q X:=by
 erw[R.BE.to rfl d,(n d)];have c:=aE c;erw[aO h rfl rfl,Zb,MD us (dM (aF e c) rfl),<-bH Ext.refl q]
structure En where
 t:Int
 i:Int
 k:Int
 d:List UInt8
noncomputable def En.o(e:En):MO:=.inst 407 [(0,.int e.t),(1,.int e.i),(2,.int e.k),(3,.bytes e.d)]
noncomputable def En.vs(e:En):List V:=[.int e.t,.int e.i,.int e.k,.bytes e.d]
def En.oct(e:En):List UInt8:=vi e.t++vi e.i++vi e.k++tx e.d
structure En.AN(e:En):Prop where
 t:big e.t
 i:big e.i
 k:big e.k
 d:e.d.length<=200
structure En.In(e:En):Prop where
 t:rG e.t
 i:rG e.i
 k:rG e.k
theorem jL(R:Rd af w K){e:En}(h:H a=some e.o)(b:aB 0 n=true)(q:Q (.tup e.vs) H):aZ af w K n 383 [.ref a] H Q X:=by
 erw[R.BN.to rfl b,(n b),Zt,i7 rfl,aO h rfl rfl,aO h rfl rfl,aO h rfl rfl,aO h rfl rfl,<-bH Ext.refl q]
theorem x9(R:Rd af w K){e:En}(h:H a=some e.o)(b:e.d.length<=200)(c:aB 0 n=true)(q:Q (.int e.d.length) H):aZ af w K n 397 [.ref a] H Q X:=by
 erw[R.uH.to rfl c,(n c),aO h rfl rfl,Zb,fe (dM b rfl),<-bH Ext.refl q]
theorem Cs(R:Rd af w K)(b:H a=none)(h:aB 0 n=true)(q:Q .none (upd H a (En.o ⟨t,i,k,d⟩))):aZ af w K n 376 [.ref a,.int t,.int i,.int k,.bytes d] (upd H a (.inst 407 [])) Q X:=by
 erw[R.AA.to rfl h,(n h),bQ us rfl rfl,bQ us rfl rfl,bQ us rfl rfl,bQ us rfl rfl];rw[bR,bR,bR,bR];exact cR Ext.refl q
theorem oJ(R:Rd af w K){e:En}(h:H a=some e.o)(b:aB 1 n=true)(q:∀c,H c=none->Q (.ref c) (upd H c e.o)):aZ af w K n 390 [.ref a] H Q X:=by
 erw[R.AE.to rfl b,(n b),aO h rfl rfl,aO h rfl rfl,aO h rfl rfl,aO h rfl rfl,(c d),<-Cs R d (lv b rfl) ⟨rfl,?_⟩,<-bH Ext.refl (q c d)]
theorem En.gI{e:En}(b:e.d.length<=200)(r:e.In):e.oct.length<=300:=by
 have f:=eJ r.t;have c:=eJ r.i;have a:=eJ r.k;have w:=fR 9 _ (aK b (dc rfl));unfold En.oct tx;simp only[ah];exact Qh [(av,zn 10),(aX,zn 10),(bT,zn 10),(gi,zn 10),(r_,zn 200)] (zp (zp (zp av aX) bT) (zp gi r_),zn 300) rt f c a w b
theorem kT(R:Rd af w K){e:En}(h:H a=some e.o)(b:e.AN)(c:aB 1 n=true)(q:e.In->Q (.int e.oct.length) H)(x:¬e.In->X 80 H):aZ af w K n 404 [.ref a] H Q X:=by
 erw[R.Ah.to rfl c,(n c)];have bd:=b.d;erw[aO h rfl rfl,Zb,fe (dM bd rfl),aO h rfl rfl,<-iM R b.t (lv c rfl) (λl=>?_) (λr=>xf Ext.refl (x λy=>r y.t)),aO h rfl rfl,<-iM R b.i (lv c rfl) (λj=>?_) (λr=>xf Ext.refl (x λy=>r y.i)),aO h rfl rfl,<-iM R b.k (lv c rfl) (λg=>?_) (λr=>xf Ext.refl (x λy=>r y.k)),Zw,Zt,Zv rfl,ZI rfl,Zz rfl];have f:rG (e.d.length:Int):=⟨gV,aw.mpr (dK [(av,zn 200)] (av,zn 18446744073709551615) rt bd)⟩;refine iM R (dv (by rw[cT];exact aK bd (dc rfl))) (lv c rfl) (λ_=>?_) (λr=>absurd f r);have:=q ⟨l,j,g⟩;have e1:e.oct.length=(vi e.t).length+(vi e.i).length+(vi e.k).length+(vi e.d.length).length+e.d.length:=by
  rw[gN];unfold En.oct tx;simp only[ah];lia
 rw[e1] at this;exact bH Ext.refl this
theorem jh(R:Rd af w K){e:En}(h:H a=some e.o)(b:e.AN)(g:aB 3 n=true)(q:e.In->Q (.bytes e.oct) H)(x:¬e.In->X 80 H):aZ af w K n 418 [.ref a] H Q X:=by
 erw[R.vX.to rfl g,(n g),Zg,Ap R (lv g rfl),(c p l j z)];have m:∀b,Ext H (upd (upd H c (pY p)) p (.c9 b)):=λb=>Ext.fresh (Ext.fresh Ext.refl l) j;have f:∀b,(upd (upd H c (pY p)) p (.c9 b)) c=some (.inst 344 [(4,.ref p)]):=λb=>ae z us;erw[<-fy (f _) ⟨rfl,?_⟩,aO (ae (ne_sn h j) (ae (ne_sn h l) h)) rfl rfl,bt (f _) rfl,<-sv R b.t (f _) (iY 0) rfl (lv g rfl) (λv l1=>?_) (λr=>xf (m _) (x λy=>r y.t)),<-fy (f _) ⟨rfl,?_⟩,aO (ae (ne_sn h j) (ae (ne_sn h l) h)) rfl rfl,bt (f _) rfl,<-sv R b.i (f _) l1 rfl (lv g rfl) (λu l2=>?_) (λr=>xf (m _) (x λy=>r y.i)),<-fy (f _) ⟨rfl,?_⟩,aO (ae (ne_sn h j) (ae (ne_sn h l) h)) rfl rfl,bt (f _) rfl,<-sv R b.k (f _) l2 rfl (lv g rfl) (λs l3=>?_) (λr=>xf (m _) (x λy=>r y.k)),<-fy (f _) ⟨rfl,?_⟩,aO (ae (ne_sn h j) (ae (ne_sn h l) h)) rfl rfl,bt (f _) rfl,<-sl R (f _) l3 rfl b.d rfl (lv g rfl) (λl4=>?_),<-fy (f _) ⟨rfl,?_⟩,bt (f _) rfl,sd R (f _) l4 rfl (lv g rfl),<-bH (m _) (q ⟨v,u,s⟩)]
end
section
variable{G:Hp}
theorem Ext.put(e:Ext H H')(h:H' c=some x):Ext (upd H c x) H':=λa m q=>by
 by_cases n:a=c
 ·subst n;rw[cX] at q;erw[c_ q,<-h]
 ·rw[dr _ _ n] at q;exact e a m q
def forM(af:eE)(w:bY)(K:fq)(n:Nat)(x:Nat)(b ms:List S)(F:Fl->Loc->Hp->Prop)(X:Addr->Hp->Prop)(ρ:Loc)(v:V)(H':Hp):Prop:=match v with
 | .ref a=>(match H' a with
   |some (.list vs)=>vs.length<=1000/\forL (λv ρ H Q=>bN af w K aH n b (upd ρ x v) H Q X) (λcI=>cI a=some (.list vs)) vs ρ H' (ic af w K n ms F X)
   |_=>False)
 |_=>False
theorem Z_(h:dm af w K aH n e ρ H (λv a=>forM af w K n x b ms F X ρ v a) X):bN af w K aH n (.q9 x e b::ms) ρ H F X:=h
def B8(step:V->Loc->Hp->(Fl->Loc->Hp->Prop)->Prop)(qR:Hp->Prop)(vs:List V)(Q:Fl->Loc->Hp->Prop)(fl:Fl)(eA:Loc)(H':Hp):Prop:=match fl with
 | .next=>qR H'/\forL step qR vs eA H' Q
 | .brk=>Q .next eA H'
 | .ret r=>Q (.ret r) eA H'
theorem wD{step:V->Loc->Hp->(Fl->Loc->Hp->Prop)->Prop}(I:List V->Loc->Hp->Prop):∀(vs:List V) {ρ:Loc} {H:Hp},I vs ρ H->
  (∀ρ H,I [] ρ H->F .next ρ H)->(∀v r ρ H,(∀e a,I r e a->forL step qR r e a F)->I (v::r) ρ H->step v ρ H (B8 step qR r F))->forL step qR vs ρ H F
 |[],_,_,h,h0,_=>h0 _ _ h
 |v::vs,ρ,H,h,h0,hs=>hs v vs ρ H (λ_ _ i=>wD I vs i h0 hs) h
theorem Gd(h:H a=some (.list vs))(l:vs.length<=1000)(I:List V->Loc->Hp->Prop)(h1:I vs ρ H)(h0:∀ρ H,I [] ρ H->bN af w K aH n ms ρ H F X)(f:∀v r ρ H,(∀e d,I r e d->forL (λv ρ H Q=>bN af w K aH n b (upd ρ x v) H Q X) (λc=>c a=some (.list vs)) r e d (ic af w K n ms F X))->I (v::r) ρ H->
   bN af w K aH n b (upd ρ x v) H (B8 (λv ρ H Q=>bN af w K aH n b (upd ρ x v) H Q X) (λc=>c a=some (.list vs)) r (ic af w K n ms F X)) X):
  forM af w K n x b ms F X ρ (.ref a) H:=by
 unfold forM;dsimp only;erw[aj h,<-⟨l,wD I vs h1 h0 f⟩]
noncomputable def iv(l:List Int):List V:=l.map .int
theorem Eu:∀l:List Int,lh (iv l)=some l
 |[]=>rfl
 |i::l=>by show(lh (iv l)).map (i:: ·)=_;refine' aj (Eu l) ?_;rfl
theorem Ip:MC (l++[v]) (-1)=some v:=by
 unfold MC;erw[aj (if_neg (dc rfl)),aj ah,aj aW,aj (if_pos (by lia)),aj (show((-1:Int)+(l.length+1:Nat)).toNat=l.length by lia),aj (iW qQ)];rewrite[oC];rfl
theorem tv(R:Rd af w K)(h:H a=some (.list (iv l)))(s:l.Pairwise (· < ·))(z:l.length<64)(x:aB 0 n=true)(q:∀c,H c=none->Q (.ref c) (upd H c (.list (iv l)))):aZ af w K n 355 [.ref a] H Q X:=by
 erw[R.rising.to rfl x,(n x),Zg,eR rfl,Zb,(c o),Z_,Zap,ZF rfl,Px (ae (ne_sn h o) h) (Eu l) (s.imp II) z,(d u),aD (bo u),(u p)];refine Gd us (by unfold iv;rw[aq];exact zw5 z rfl) (λf ρ g=>∃done t,f=iv t/\done++t=l/\ρ 1=some (.ref c)/\Ext H g/\g c=some (.list (iv done))/\g d=some (.list (iv l)))
  ⟨[],l,rfl,rfl,rfl,Ext.fresh (Ext.fresh Ext.refl o) u,ae (aJ p) us,us⟩ (λρ g=>(Cz · λdone t e1 e2 e3 e4 e5 e6=>?_)) λv f ρ g B=>(Cz · λdone t e1 e2 e3 e4 e5 e6=>?_)
 ·induction t using lcs with
  |cons=>injection e1
  |nil=>
   rw[bb] at e2;replace e2:=e2.symm;subst e2;erw[<-ZO e3 ?_,<-bH (e4.put e5) (q c o)]
 ·induction t using lcs with
  |nil=>injection e1
  |cons i t=>
   injection e1 with e1 e7
   subst e1;subst e7;have m:bN af w K aH n [.expr (.bp bA 0 [dC])] (upd ρ 2 (.int i)) g (ic af w K n [] (B8 (λv ρ H Q=>bN af w K aH n [.dp (.or [(.not bA),(.cmp .NotEq (.sub bA (ek (-1))) dC)]) [.expr (.bp bA 0 [dC])] []] (upd ρ 2 v) H Q (cG X)) (λD=>D d=some (.list (iv l))) (iv t) (ic af w K n [dj bA] (dF Q) (cG X))) (cG X)) (cG X):=by
    erw[Zk,Zm,<-Zc e3 ?_,wM e5 rfl,ZF rfl];have hl:(iv done).length<=100000:=by
     have:=congrArg cF e2;unfold iv;rw[ah,aV] at this;rw[aq];exact WR this z
    erw[qV e5 hl,<-⟨ae p e6,B _ _ ⟨done++[i],t,rfl,by erw[c_ e2];simp,e3,λb A y=>ae (ne_sn y o) (e4 b A y),?_,ae p e6⟩⟩];rw[cX];unfold iv;simp
   have hl:(iv done).length<=100000:=by
    have:=congrArg cF e2;unfold iv;rw[ah,aV] at this;rw[aq];exact WR this z
   erw[Zh,ZT,Zn,ZP,<-Zag e3 ?_,FJ e5 hl];cases k:done.reverse with
   |nil=>
    obtain rfl:done=[]:=by simpa using k
    exact m
   |cons j r=>
    have e:done=r.reverse++[j]:=by
     have:=congrArg List.reverse k
     simpa using this
    subst e;have C:(!(iv (r.reverse++[j])).isEmpty)=true:=by unfold iv;simp
    erw[aj C,ZM,Zn,Zy rfl,Zo rfl,<-Zc e3 ?_,<-ax (v:=.int j) e5 hl ?_ ?_]
    ·unfold iv;erw[aj aY,<-Ip]
    refine wF (λq=>?_) (λ_=>?_)
    ·exfalso;rw[<-e2] at s;have:=(mD.mp s).2.2 j (by simp) i (by simp);exact Vi [(ys cN,dX),(dX,cN)] rt this (aG (ao q))
    ·exact m
end
section
variable{G:Hp}
theorem aI(e:Ext H H')(h:H' a=none):H a=none:=by
 cases q:H a with
 |none=>rfl
 |some x=>rw[e a x q] at h;injection h
structure BM where
 c:Addr
 v:Addr
 l:Addr
 o:Addr
 n:Addr
noncomputable def BM.O(A:BM)(u:Bool):MO:=.inst 463 [(6,.ref A.v),(7,.ref A.l),(8,.ref A.o),(9,.ref A.n),(10,.bool u)]
structure Oa(H:Hp)(A:BM)(ids:List Int)(u:Bool):Prop where
 c:H A.c=some (A.O u)
 v:H A.v=some (.list (iv ids))
 l:H A.l=some (.list (iv []))
 o:H A.o=some (.list (iv []))
 n:H A.n=some (.list (iv []))
structure U0(H:Hp)(A:BM):Prop where
 c:H A.c=none
 v:H A.v=none
 l:H A.l=none
 o:H A.o=none
 n:H A.n=none
theorem Oa.ext(x:Oa H A ids u)(e:Ext H H'):Oa H' A ids u:=⟨e _ _ x.c,e _ _ x.v,e _ _ x.l,e _ _ x.o,e _ _ x.n⟩
structure xh(l:List Int):Prop where
 up:l.Pairwise (· < ·)
 len:l.length<=30
 Hx:∀i∈l,rG i
theorem qg(R:Rd af w K)(I:xh ids)(h:H c=none)(W:H v0=some (.list (iv ids)))(hl:H l0=some (.list (iv [])))(e:H o0=some (.list (iv [])))(d:H n0=some (.list (iv [])))(f:aB 1 n=true)(q:∀E A,A.c=c->Ext H E->U0 H A->Oa E A ids u->Q .none E):aZ af w K n 446 [.ref c,.ref v0,.ref l0,.ref o0,.ref n0,.bool u] (upd H c (.inst 463 [])) Q X:=by
 erw[R.sX.to rfl f,(n f)];have e0:Ext H (upd H c (.inst 463 [])):=Ext.fresh Ext.refl h;erw[Zu,Zz rfl,tv R (e0 _ _ W) I.up (aK I.len (dc rfl)) (lv f rfl),(v j),aD (bo j),(g L),Zc rfl,bQ (ae (aJ L) us) rfl rfl,Zu,Zz rfl,tv R (ae (ne_sn hl h) (ae (ne_sn hl g) (ae (ne_sn hl h) hl))) mE (dc rfl) (lv f rfl),(l C),aD (bo C),(B nl),aD (bo B),(z U),aD (bo z),(i _),Zc rfl,bQ (ae (aJ nl) us) rfl rfl,Zu,Zz rfl,tv R (ae (ne_sn e h) (ae (ne_sn e i) (ae (ne_sn e h) (ae (ne_sn e g) (ae (ne_sn e h) e))))) mE (dc rfl) (lv f rfl),(o J),aD (bo J),(r O),aD (bo r),(ON N),aD (bo ON),(p _),aD (bo p),(k M),aD (bo k),(D _),Zc rfl,bQ (ae (aJ O) us) rfl rfl,Zu,Zz rfl,tv R (ae (ne_sn d h) (ae (ne_sn d D) (ae (ne_sn d h) (ae (ne_sn d i) (ae (ne_sn d h) (ae (ne_sn d g) (ae (ne_sn d h) d))))))) mE (dc rfl) (lv f rfl),(m y),aD (bo y),(G nm),aD (bo G),(x T),aD (bo x),(Xl _),aD (bo Xl),(t S),aD (bo t),(s _),aD (bo s),(Y P),aD (bo Y),(F _),Zc rfl,bQ (ae (aJ nm) us) rfl rfl,Zu,Zc rfl,Zc rfl,bQ us rfl rfl,Ze,<-cR Ext.refl (q _ ⟨c,v,l,o,m⟩ rfl (λb V a=>?_) ⟨h,g,i,D,F⟩ ⟨us,?_,?_,?_,?_⟩)]
 ·have:=e0 b V a;exact ae (ne_sn a h) (ae (ne_sn a h) (ae (ne_sn a F) (ae (ne_sn a h) (ae (ne_sn a D) (ae (ne_sn a h) (ae (ne_sn a i) (ae (ne_sn a h) (ae (ne_sn a g) this))))))))
 all_goals (try dsimp only)
 all_goals repeat (first|exact us|refine ae (by first|assumption|exact aJ (by assumption)) ?_)
theorem EN(R:Rd af w K)(I:xh ids)(h:Oa H A ids u)(a:aB 0 n=true)(q:Q (.tup [.tup (iv ids),.tup [],.tup [],.tup [],.bool u]) H):aZ af w K n 453 [.ref A.c] H Q X:=by
 erw[R.uz.to rfl a,(n a)];have hl:(iv ids).length<=1000:=by unfold iv;rw[aq];have:=I.len;exact dM this rfl
 rcases h with⟨h1,h2,h3,h4,h5⟩
 unfold BM.O at*;have h0:(iv []).length<=1000:=dc rfl;erw[Zt,i7 rfl,Za,ZL,Za,Zl rfl,aO h1 rfl rfl,Zb,gj h2 (by assumption),Za,ZL,Za,Zl rfl,aO h1 rfl rfl,Zb,gj h3 (by assumption),Za,ZL,Za,Zl rfl,aO h1 rfl rfl,Zb,gj h4 (by assumption),Za,ZL,Za,Zl rfl,aO h1 rfl rfl,Zb,gj h5 (by assumption),Za,Zl rfl,aO h1 rfl rfl,Zb,<-bH Ext.refl q]
theorem Dj(R:Rd af w K)(I:xh ids)(h:Oa H A ids u)(d:aB 2 n=true)(q:∀a b,Ext H a->U0 H b->Oa a b ids u->Q (.ref b.c) a):aZ af w K n 460 [.ref A.c] H Q X:=by
 erw[R.sk.to rfl d,(n d)];rcases h with⟨h1,h2,h3,h4,h5⟩
 unfold BM.O at*;erw[Zt,ZQ,Za,Zl rfl,aO h1 rfl rfl,Za,Zl rfl,aO h1 rfl rfl,Za,Zl rfl,aO h1 rfl rfl,Za,Zl rfl,aO h1 rfl rfl,Za,Zl rfl,aO h1 rfl rfl,Zb,(c e),qg R I e h2 h3 h4 h5 (lv d rfl),(a b e1 e2 e3 e4)];subst e1;exact⟨rfl,bH Ext.refl (q a b e2 e3 e4)⟩
def mu(l:List Int):List UInt8:=vr l.length++(l.map vi).flatten
theorem qb(R:Rd af w K)(I:xh ids)(h:(upd G p (.c9 b)) a=some (pY p))(j:(upd G p (.c9 b)) la=some (.list (iv ids)))(E:b.length<=L)(x:dO L 80000=true)(u:aB 3 n=true)(q:(b++mu ids).length<=L+400->Q .none (upd G p (.c9 (b++mu ids)))):aZ af w K n 474 [.ref a,.ref la] (upd G p (.c9 b)) Q X:=by
 erw[R.Hu.to rfl u,(n u)];have x:=aE x;have y:=I.len;have o:(iv ids).length=ids.length:=by unfold iv;rw[aq]
 erw[aD (FK h),(f m)];have d:la≠p:=λe=>by rw[e,cX] at j;cases j
 have g:G la=some (.list (iv ids)):=by rw[dr _ _ d] at j;exact j
 have A:∀b,(upd G p (.c9 b)) a=some (.inst 344 [(4,.ref p)]):=λb=>ae f m;erw[Zk,Zm,Zc rfl,bC (ae f m) rfl,Za,ZG rfl,dW j (lM o y rfl),Zb,bt (ae f m) rfl,<-sv R (dv (by rw[cT];exact aK (show(iv ids).length<=30 by exact lM o y rfl) (dc rfl))) (A _) E (d4.mpr (dM x rfl)) (lv u rfl) (λC l1=>?_) (λr=>absurd ⟨gV,aw.mpr (fp [(av,aX),(aX,zn 30)] (av,zn 18446744073709551615) rt (aa o) y)⟩ r)];rw[o,gN] at l1⊢;erw[Z_,Zc rfl];refine Gd (ae d g) (lM o y rfl) (λc ρ H=>∃done t s,c=iv t/\done++t=ids/\ρ 0=some (.ref a)/\H=upd G p (.c9 s)/\s=b++vr ids.length++(done.map vi).flatten/\s.length<=L+10+10*done.length)
  ⟨[],ids,_,rfl,rfl,rfl,rfl,by erw[aj tu,aj rB];rw[bb],l1⟩ (λρ H=>(td · λdone t s e1 e2 e3 e4 e5 e6=>?_)) λv c ρ H D=>(td · λdone t s e1 e2 e3 e4 e5 e6=>?_)
 ·induction t using lcs with
  |cons=>injection e1
  |nil=>
   rw[bb] at e2;subst e2;subst e4;subst e5;have e:b++vr done.length++(done.map vi).flatten=b++mu done:=by unfold mu;rw[aC]
   rw[e] at e6⊢;erw[Ze,<-cR Ext.refl (q (gP [(zm 10 av,zm 10 (zn 30)),(aX,zp (zk bT 10) (zm 10 av))] (aX,zk bT 400) rt (aP 10 y) e6))]
 ·induction t using lcs with
  |nil=>injection e1
  |cons i t=>
   injection e1 with e1 e7
   subst e1;subst e7;subst e4;have z:=I.Hx i (by erw[c_ e2];simp);have B:=congrArg cF e2;rw[ah,aV] at B;erw[Zk,Zm,<-Zc e3 ?_,bC (ae f m) rfl,ZF rfl,bt (ae f m) rfl,<-sv R (by erw[ay (eO z),(k e l)];rw[e];exact dv (JR l rfl)) (A _) e6 (d4.mpr (fp [(av,zn 80000),(zm 10 aX,zm 10 (zn 30))] (zp (zk av 10) (zm 10 aX),zn 90000) rt x (aP 10 (gP [(zp av (zs aX),bT),(bT,zn 30)] (av,zn 30) rt (aa B) y)))) (lv u rfl) (λC l2=>?_) (λr=>absurd z r),Ze,<-⟨ae d g,D _ _ ⟨done++[i],t,_,rfl,by erw[c_ e2];rewrite[aC];rfl,e3,rfl,?_,?_⟩⟩]
   ·erw[aj e5,aj aY,aj jt];simp
   ·erw[aj (ah (as:=done)),aj aW,<-gP [(av,zk (zp aX (zm 10 bT)) 10)] (av,zp aX (zm 10 (zs bT))) rt l2]
end
section
variable{G:Hp}
def jv(ids:List Int)(u:Bool):List UInt8:=mu ids++mu []++mu []++mu []++[fb u]
theorem xh.nil:xh []:=⟨mE,ia _,λ_ h=>nomatch h⟩
theorem AR(R:Rd af w K)(I:xh ids)(h:Oa H A ids u)(e:aB 4 n=true)(q:(jv ids u).length<=1601->Q (.bytes (jv ids u)) H):aZ af w K n 488 [.ref A.c] H Q X:=by
 erw[R.yt.to rfl e,(n e)];rcases h with⟨h1,h2,h3,h4,h5⟩
 unfold BM.O at*;erw[Zg,Ap R (lv e rfl),(c p g f a)];have i:∀b,Ext H (upd (upd H c (pY p)) p (.c9 b)):=λb=>Ext.fresh (Ext.fresh Ext.refl g) f;have d:(upd H c (pY p)) c=some (.inst 344 [(4,.ref p)]):=us;erw[Zk,Zq,Zr rfl,Za,Zl rfl,aO (ae (ne_sn h1 f) (ae (ne_sn h1 g) h1)) rfl rfl,Zb,qb R I (ae a d) (i _ _ _ h2) (iY 0) rfl (lv e rfl),(l1),Zk,Zq,Zr rfl,Za,Zl rfl,aO (ae (ne_sn h1 f) (ae (ne_sn h1 g) h1)) rfl rfl,Zb,qb R xh.nil (ae a d) (i _ _ _ h3) l1 rfl (lv e rfl),(l2),Zk,Zq,Zr rfl,Za,Zl rfl,aO (ae (ne_sn h1 f) (ae (ne_sn h1 g) h1)) rfl rfl,Zb,qb R xh.nil (ae a d) (i _ _ _ h4) l2 rfl (lv e rfl),(l3),Zk,Zq,Zr rfl,Za,Zl rfl,aO (ae (ne_sn h1 f) (ae (ne_sn h1 g) h1)) rfl rfl,Zb,qb R xh.nil (ae a d) (i _ _ _ h5) l3 rfl (lv e rfl),(l4),Zk,Zm,Zc rfl,bC (ae a d) rfl,Za,Zl rfl,aO (ae (ne_sn h1 f) (ae (ne_sn h1 g) h1)) rfl rfl,Zb,bt (ae a d) rfl,sf R (ae a d) l4 rfl (lv e rfl),(l5),Zt,Zm,Zc rfl,bC (ae a d) rfl,Zb,bt (ae a d) rfl,sd R (ae a d) l5 rfl (lv e rfl),<-bH (i _) (q (aF l5 (dc rfl)))]
structure Sn where
 i:Int
 t:Int
 ids:List Int
 u:Bool
 d:List UInt8
structure Sn.Ok(s:Sn):Prop where
 i:rG s.i
 t:rG s.t
 ids:xh s.ids
 d:s.d.length<=200
noncomputable def Sn.O(s:Sn)(c:Addr):MO:=.inst 533 [(1,.int s.i),(0,.int s.t),(11,.ref c),(3,.bytes s.d)]
structure Br(H:Hp)(a:Addr)(A:BM)(s:Sn):Prop where
 o:H a=some (s.O A.c)
 co:Oa H A s.ids s.u
theorem Br.ext{H:Hp}(x:Br H a A s)(e:Ext H H'):Br H' a A s:=⟨e _ _ x.o,x.co.ext e⟩
def Sn.oct(s:Sn):List UInt8:=vi s.i++vi s.t++tx (jv s.ids s.u)++tx s.d
def Sn.row(s:Sn):V:=.tup [.int s.i,.int s.t,.tup [.tup (iv s.ids),.tup [],.tup [],.tup [],.bool s.u],.bytes s.d]
theorem lP(h:rG m):big m:=by refine ay (eO h) ?_;intro k e l;rw[e];exact dv (JR l rfl)
theorem qo(R:Rd af w K)(h:aB 0 n=true)(q:Q .none (upd H a (.inst 533 [(1,.int i),(0,.int t),(11,.ref c),(3,.bytes d)]))):aZ af w K n 509 [.ref a,.int i,.int t,.ref c,.bytes d] (upd H a (.inst 533 [])) Q X:=by
 erw[R.uN.to rfl h,(n h),Zu,Zc rfl,Zc rfl,bQ us rfl rfl,Zu,Zc rfl,Zc rfl,bQ us rfl rfl,Zu,Zc rfl,Zc rfl,bQ us rfl rfl,Zu,Zc rfl,Zc rfl,bQ us rfl rfl,Ze];rw[bR,bR,bR,bR];exact cR Ext.refl q
theorem ET(R:Rd af w K)(I:xh s.ids)(h:Br H a A s)(d:aB 1 n=true)(q:Q s.row H):aZ af w K n 516 [.ref a] H Q X:=by
 erw[R.wo.to rfl d,(n d)];have b:=h.o;have e:=h.co.c;unfold Sn.O BM.O at*;erw[Zt,i7 rfl,Za,Zl rfl,aO b rfl rfl,Za,Zl rfl,aO b rfl rfl,Za,Zm,Zl rfl,aO b rfl rfl,bC e rfl,Zb,bt e rfl,EN R I h.co (lv d rfl),Za,Zl rfl,aO b rfl rfl,Zb,<-bH Ext.refl q]
structure X2(H:Hp)(a:Addr)(A:BM):Prop where
 o:H a=none
 co:U0 H A
theorem Ci(R:Rd af w K)(I:xh s.ids)(h:Br H a A s)(g:aB 3 n=true)(q:∀i k j,Ext H i->X2 H k j->Br i k j s->Q (.ref k) i):aZ af w K n 530 [.ref a] H Q X:=by
 erw[R.uK.to rfl g,(n g)];have d:=h.o;have b:=h.co.c;unfold Sn.O BM.O at*;erw[Zt,ZQ,Za,Zl rfl,aO d rfl rfl,Za,Zl rfl,aO d rfl rfl,Za,Zm,Zl rfl,aO d rfl rfl,bC b rfl,Zb,bt b rfl,Dj R I h.co (lv g rfl),(i j e f L)];have l:=e _ _ d;erw[Za,Zl rfl,aO l rfl rfl,Zb,(c b),<-qo R (lv g rfl) ⟨rfl,?_⟩,<-bH Ext.refl (q _ c j (Ext.fresh e (aI e b)) ⟨aI e b,f⟩ ⟨us,L.ext (Ext.fresh Ext.refl b)⟩)]
theorem Aw(R:Rd af w K)(I:s.Ok)(h:Br H a A s)(j:aB 5 n=true)(q:s.oct.length<=2000->Q (.bytes s.oct) H):aZ af w K n 544 [.ref a] H Q X:=by
 erw[R.qP.to rfl j,(n j)];have g:=h.o;have L:=h.co;unfold Sn.O at*;erw[Zg,Ap R (lv j rfl),(c p l k e)];have m:∀b,Ext H (upd (upd H c (pY p)) p (.c9 b)):=λb=>Ext.fresh (Ext.fresh Ext.refl l) k;have f:(upd H c (pY p)) c=some (.inst 344 [(4,.ref p)]):=us;erw[Zk,Zm,Zc rfl,bC (ae e f) rfl,Za,Zl rfl,aO (ae (ne_sn g k) (ae (ne_sn g l) g)) rfl rfl,Zb,bt (ae e f) rfl,<-sv R (lP I.i) (ae e f) (iY 0) rfl (lv j rfl) (λ_ l1=>?_) (λr=>absurd I.i r),Zk,Zm,Zc rfl,bC (ae e f) rfl,Za,Zl rfl,aO (ae (ne_sn g k) (ae (ne_sn g l) g)) rfl rfl,Zb,bt (ae e f) rfl,<-sv R (lP I.t) (ae e f) l1 rfl (lv j rfl) (λ_ l2=>?_) (λr=>absurd I.t r),Zk,Zm,Zc rfl,bC (ae e f) rfl,Za,Zq,Za,Zl rfl,aO (ae (ne_sn g k) (ae (ne_sn g l) g)) rfl rfl,Zb,AR R I.ids (L.ext (m _)) (lv j rfl),(u),Zb,bt (ae e f) rfl,sl R (ae e f) l2 rfl u rfl (lv j rfl),(l3),Zk,Zm,Zc rfl,bC (ae e f) rfl,Za,Zl rfl,aO (ae (ne_sn g k) (ae (ne_sn g l) g)) rfl rfl,Zb,bt (ae e f) rfl,sl R (ae e f) l3 rfl I.d rfl (lv j rfl),(l4),Zt,Zm,Zc rfl,bC (ae e f) rfl,Zb,bt (ae e f) rfl,sd R (ae e f) l4 rfl (lv j rfl),<-bH (m _) (q (aF l4 (dc rfl)))]
noncomputable def Sl:Option (List UInt8)->V
 |none=>.none
 |some d=>.bytes d
def JU:Option (List UInt8)->List UInt8
 |none=>[fb false]
 |some d=>[fb true]++tx d
theorem Ct(R:Rd af w K)(h:(upd G p (.c9 b)) a=some (pY p))(i:b.length<=L)(g:dO L 80000=true)(j:∀d,o=some d->d.length<=200)(f:aB 3 n=true)(q:(b++JU o).length<=L+211->Q .none (upd G p (.c9 (b++JU o)))):aZ af w K n 638 [.ref a,Sl o] (upd G p (.c9 b)) Q X:=by
 erw[R.BO.to rfl f,(n f)];have g:=aE g;erw[aD (FK h),(c e)]
 induction o using tU with
 |none=>
  unfold Sl;erw[Zk,Zm,Zc rfl,bC (ae c e) rfl,Za,Zac,Zc rfl,lg rfl,Zb,bt (ae c e) rfl,sf R (ae c e) i (d4.mpr (dM g rfl)) (lv f rfl),(l1),Zh,ZS,Zc rfl,lg rfl,Zi,Ze,Zd,Ze,<-cR Ext.refl (q (aF l1 (vG rfl)))]
 |some d=>
  unfold Sl;erw[Zk,Zm,Zc rfl,bC (ae c e) rfl,Za,Zac,Zc rfl,lg rfl,Zb,bt (ae c e) rfl,sf R (ae c e) i (d4.mpr (dM g rfl)) (lv f rfl),(l1),Zh,ZS,Zc rfl,lg rfl,Zp,Zk,Zm,Zc rfl,bC (ae c e) rfl,ZF rfl,bt (ae c e) rfl,sl R (ae c e) l1 (d4.mpr (OV g rfl)) (j d rfl) rfl (lv f rfl),(l2)];rw[aC] at l2⊢;erw[Ze,Zd,Ze,<-cR Ext.refl (q (aF l2 (dK [] (zp (zs av) (zk (zn 200) 10),zk av 211) rt)))]
end
section
variable{G:Hp}
def tj(af:eE)(w:bY)(K:fq)(n:Nat)(elt:E)(cond:Option E)(ρ:Loc)(Q:V->Hp->Prop)(v:V)(H':Hp):Prop:=match v with
 | .ref a=>(match H' a with
   |some (.list vs)=>vs.length<=1000/\j8 (λv H Q=>dm af w K aH n elt (upd ρ 1000 v) H Q Ds) (λv H Q=>wpC af w K aH n cond (upd ρ 1000 v) H Q Ds) (λcI=>cI a=some (.list vs)) vs [] H' λcL cI=>∀c,cI c=none->Q (.ref c) (upd cI c (.list cL))
   |_=>False)
 |_=>False
theorem ZK{cond:Option E}(h:dm af w K aH n it ρ H (λv a=>tj af w K n elt cond ρ Q v a) X):dm af w K aH n (.comp elt it cond) ρ H Q X:=h
def L0(af:eE)(w:bY)(K:fq)(n:Nat)(elt:E)(ρ:Loc)(Q:V->Hp->Prop)(v:V)(H':Hp):Prop:=∃k,v=.int k/\0<=k/\k<=1000/\
   j8 (λv H Q=>dm af w K aH n elt (upd ρ 1000 v) H Q Ds) (λ_ H Q=>Q true H) (λ_=>True) (gK 0 k) [] H' λcL cI=>∀c,cI c=none->Q (.ref c) (upd cI c (.list cL))
theorem Zai(h:dm af w K aH n hi ρ H (λv a=>L0 af w K n elt ρ Q v a) X):dm af w K aH n (.kg elt hi) ρ H Q X:=h
theorem mI(I:List V->List V->Hp->Prop):∀(vs a:List V) {H:Hp},I vs a H->(∀a H,I [] a H->F a H)->
  (∀v r a H,I (v::r) a H->∀G:V->Hp->Prop,(∀x b,qR b->I r (a++[x]) b->G x b)->elt v H G)->j8 elt (λ_ H Q=>Q true H) qR vs a H F
 |[],a,H,h,h0,_=>h0 _ _ h
 |v::vs,a,H,h,h0,hs=>by
  exact hs v vs a H h (λx d=>qR d/\j8 elt (λ_ H Q=>Q true H) qR vs (a++[x]) d F) λx b c i=>⟨c,mI I vs _ i h0 hs⟩
theorem comp_map(f:V->V)(h:H a=some (.list vs))(l:vs.length<=1000)(i:∀v∈vs,∀G:V->Hp->Prop,G (f v) H->dm af w K aH n elt (upd ρ 1000 v) H G Ds)(q:∀c,H c=none->Q (.ref c) (upd H c (.list (vs.map f)))):tj af w K n elt none ρ Q (.ref a) H:=by
 unfold tj;dsimp only;erw[aj h,<-⟨l,mI (λr b d=>d=H/\∃done,done++r=vs/\b=done.map f) vs [] ⟨rfl,[],rfl,rfl⟩ (λb d=>gr λe=>bI λdone e1 e2=>?_) λv r b d=>gr λe=>bI λdone e1 e2 G g=>?_⟩]
 ·subst e;rw[bb] at e1;replace e1:=e1.symm;subst e1;subst e2;exact q
 ·subst e;exact i v (by erw[c_ e1];simp) G (g _ _ h ⟨rfl,done++[v],by erw[c_ e1];simp,by erw[aj e2];simp⟩)
theorem sS(h:H a=some (.list vs))(l:vs.length<=1000)(I:List V->List V->Hp->Prop)(h1:I vs [] H)(h0:∀b H,I [] b H->∀c,H c=none->Q (.ref c) (upd H c (.list b)))(e:∀v r b H,I (v::r) b H->∀G:V->Hp->Prop,(∀x d,d a=some (.list vs)->I r (b++[x]) d->G x d)->dm af w K aH n elt (upd ρ 1000 v) H G Ds):tj af w K n elt none ρ Q (.ref a) H:=by
 unfold tj;dsimp only;erw[aj h,<-⟨l,mI I vs [] h1 h0 e⟩]
theorem Jp(f:V->V)(l:k<=1000)(j:∀i:Nat,i<k->∀G:V->Hp->Prop,G (f (.int i)) H->dm af w K aH n elt (upd ρ 1000 (.int i)) H G Ds)(q:∀c,H c=none->Q (.ref c) (upd H c (.list ((gw k).map λi:Nat=>f (.int i))))):L0 af w K n elt ρ Q (.int (k:Int)) H:=by
 refine⟨k,rfl,gV,Yc l,?_⟩;have e:gK 0 k=(gw k).map λi:Nat=>V.int i:=by
  exact dR λi _=>by rw[Int.zero_add]
 erw[aj e,<-mI (λr a b=>b=H/\∃done,done++r=(gw k).map (λi:Nat=>V.int i)/\a=done.map f) _ [] ⟨rfl,[],rfl,rfl⟩ (λa b=>gr λe=>bI λdone e1 e2=>?_) λv r a b=>gr λe=>bI λdone e1 e2 G g=>?_]
 ·subst e;rw[bb] at e1;subst e1;subst e2;erw[aj eu,<-q]
 ·subst e;have h:v∈(gw k).map (λi:Nat=>V.int i):=by refine' c_ e1 ?_;simp
  erw[ay (cK.mp h),(i d m)];subst m;exact j i (List.mem_range.mp d) G (g _ _ trivial ⟨rfl,done++[V.int i],by erw[c_ e1];rewrite[aC];rfl,by erw[aj e2,aj aY];rfl⟩)
noncomputable def dE(h:Nat->Int)(me:Addr)(sn:V)(rej:Bool)(cj:List UInt8):MO:=
 .inst 578 [(2,.int (h 0)),(12,.int (h 1)),(13,.int (h 2)),(0,.int (h 3)),(14,.int (h 4)),(1,.int (h 5)),(15,.ref me),(16,.int (h 6)),(17,sn),(18,.bool rej),(19,.int (h 7)),(20,.bytes cj)]
theorem nY(R:Rd af w K)(g:H m=none)(h:aB 0 n=true)(q:∀e,H e=none->m≠e->Q .none (upd (upd H e (.list [])) m (dE (λj=>match j with|0=>a|1=>b|2=>c|3=>d|_=>0) e .none false []))):aZ af w K n 565 [.ref m,.int a,.int b,.int c,.int d] (upd H m (.inst 578 [])) Q X:=by
 erw[R.wV.to rfl h,(n h),bQ us rfl rfl,bQ us rfl rfl,bQ us rfl rfl,bQ us rfl rfl,bQ us rfl rfl,bQ us rfl rfl,Zu,eR rfl,(e P),aD (bo P),(h1 f),aD (bo h1),(h2 _),aD (bo h2),(h3 _),aD (bo h3),(h4 _),aD (bo h4),(h5 _),aD (bo h5),(h6 _),aD (bo h6),(h7 _),Zc rfl,bQ (ae (aJ f) us) rfl rfl,bQ us rfl rfl,bQ us rfl rfl,bQ us rfl rfl,bQ us rfl rfl,bQ us rfl rfl,cR Ext.refl];have:=q e h7 (aJ f)
 repeat rw[bR]
 erw[aj (fB (aJ f))];rewrite[bR];exact this
noncomputable def aT(l:List Addr):List V:=l.map .ref
def dU(H:Hp):List Addr->List En->Prop
 |[],[]=>True
 |e::es,x::xs=>H e=some x.o/\dU H es xs
 |_,_=>False
theorem dU.ext{H:Hp}(k:Ext H H'):∀{es:List Addr} {xs:List En},dU H es xs->dU H' es xs
 |[],[],_=>trivial
 |_::_,_::_,h=>⟨k _ _ h.1,dU.ext k h.2⟩
 |[],_::_,h=>h.elim
 |_::_,[],h=>h.elim
theorem dU.length{H:Hp}:∀{es:List Addr} {xs:List En},dU H es xs->es.length=xs.length
 |[],[],_=>rfl
 |_::_,_::_,h=>congrArg (· +1) (dU.length h.2)
 |[],_::_,h=>h.elim
 |_::_,[],h=>h.elim
inductive EI(H:Hp):V->Option Sn->Prop
 |none:EI H .none none
 |some {a:Addr} {A:BM} {s:Sn}:Br H a A s->EI H (.ref a) (some s)
theorem EI.ext{H:Hp}(k:Ext H H')(x:EI H v s):EI H' v s:=by
 induction x using EI.casesOn with
 |none=>exact .none
 |some h=>exact .some (h.ext k)
def y8:Option Sn->List UInt8
 |none=>[fb false]
 |some s=>[fb true]++tx s.oct
def xB(h:Nat->Int)(xs:List En)(sn:Option Sn)(rej:Bool)(cj:List UInt8):List UInt8:=
 vi (h 0)++vi (h 1)++vi (h 2)++vi (h 3)++vi (h 4)++vi (h 5)++vi (h 6)++vi (h 7)++[fb rej]++vr xs.length++(xs.map λx=>tx x.oct).flatten++y8 sn++tx cj
noncomputable def Gy:Option Sn->V
 |none=>.none
 |some s=>s.row
def CD(h:Nat->Int)(xs:List En)(sn:Option Sn)(rej:Bool)(cj:List UInt8):V:=
 .tup [.int (h 0),.int (h 1),.int (h 2),.int (h 3),.int (h 4),.int (h 5),.tup (xs.map λx=>.tup x.vs),.int (h 6),Gy sn,.bool rej,.int (h 7),.bytes cj]
structure Cp(h:Nat->Int)(xs:List En)(sn:Option Sn)(cj:List UInt8):Prop where
 hb:∀j,j<8->big (h j)
 xb:∀x∈xs,x.AN
 len:xs.length<=10
 sb:∀s,sn=some s->s.Ok
 cb:cj.length<=200
structure EW(h:Nat->Int)(xs:List En):Prop where
 hi:∀j,j<8->rG (h j)
 xi:∀x∈xs,x.In
theorem fW(R:Rd af w K)(a:H m=some (dE h me v rej cj))(C:H me=some (.list (aT es)))(J:dU H es xs)(hs:EI H v sn)(B:Cp h xs sn cj)(i:aB 6 n=true)(q:EW h xs->Q (.bytes (xB h xs sn rej cj)) H)(x:¬EW h xs->X 80 H):aZ af w K n 589 [.ref m] H Q X:=by
 erw[R.sL.to rfl i,(n i)];unfold dE at*;have A:(aT es).length<=10:=by unfold aT;rewrite[aq];refine' aj J.length ?_;exact B.len
 erw[Zg,Ap R (lv i rfl),(c p l k f)];have o:∀b,Ext H (upd (upd H c (pY p)) p (.c9 b)):=λb=>Ext.fresh (Ext.fresh Ext.refl l) k;have g:(upd H c (pY p)) c=some (.inst 344 [(4,.ref p)]):=us;erw[bC (ae f g) rfl,Za,Zl rfl,aO (ae (ne_sn a k) (ae (ne_sn a l) a)) rfl rfl,Zb,bt (ae f g) rfl,<-sv R (B.hb 0 (dc rfl)) (ae f g) (iY 0) rfl (lv i rfl) (λr0 l0=>?_) (λr=>xf (o _) (x λy=>r (y.hi 0 (dc rfl)))),bC (ae f g) rfl,Za,Zl rfl,aO (ae (ne_sn a k) (ae (ne_sn a l) a)) rfl rfl,Zb,bt (ae f g) rfl,<-sv R (B.hb 1 (dc rfl)) (ae f g) l0 rfl (lv i rfl) (λr1 l1=>?_) (λr=>xf (o _) (x λy=>r (y.hi 1 (dc rfl)))),bC (ae f g) rfl,Za,Zl rfl,aO (ae (ne_sn a k) (ae (ne_sn a l) a)) rfl rfl,Zb,bt (ae f g) rfl,<-sv R (B.hb 2 (dc rfl)) (ae f g) l1 rfl (lv i rfl) (λr2 l2=>?_) (λr=>xf (o _) (x λy=>r (y.hi 2 (dc rfl)))),bC (ae f g) rfl,Za,Zl rfl,aO (ae (ne_sn a k) (ae (ne_sn a l) a)) rfl rfl,Zb,bt (ae f g) rfl,<-sv R (B.hb 3 (dc rfl)) (ae f g) l2 rfl (lv i rfl) (λr3 l3=>?_) (λr=>xf (o _) (x λy=>r (y.hi 3 (dc rfl)))),Zk,Zm,Zc rfl,bC (ae f g) rfl,Za,Zl rfl,aO (ae (ne_sn a k) (ae (ne_sn a l) a)) rfl rfl,Zb,bt (ae f g) rfl,<-sv R (B.hb 4 (dc rfl)) (ae f g) l3 rfl (lv i rfl) (λr4 l4=>?_) (λr=>xf (o _) (x λy=>r (y.hi 4 (dc rfl)))),Zk,Zm,Zc rfl,bC (ae f g) rfl,Za,Zl rfl,aO (ae (ne_sn a k) (ae (ne_sn a l) a)) rfl rfl,Zb,bt (ae f g) rfl,<-sv R (B.hb 5 (dc rfl)) (ae f g) l4 rfl (lv i rfl) (λr5 l5=>?_) (λr=>xf (o _) (x λy=>r (y.hi 5 (dc rfl)))),Zk,Zm,Zc rfl,bC (ae f g) rfl,Za,Zl rfl,aO (ae (ne_sn a k) (ae (ne_sn a l) a)) rfl rfl,Zb,bt (ae f g) rfl,<-sv R (B.hb 6 (dc rfl)) (ae f g) l5 rfl (lv i rfl) (λr6 l6=>?_) (λr=>xf (o _) (x λy=>r (y.hi 6 (dc rfl)))),Zk,Zm,Zc rfl,bC (ae f g) rfl,Za,Zl rfl,aO (ae (ne_sn a k) (ae (ne_sn a l) a)) rfl rfl,Zb,bt (ae f g) rfl,<-sv R (B.hb 7 (dc rfl)) (ae f g) l6 rfl (lv i rfl) (λY l7=>?_) (λr=>xf (o _) (x λy=>r (y.hi 7 (dc rfl)))),Zk,Zm,Zc rfl,bC (ae f g) rfl,Za,Zl rfl,aO (ae (ne_sn a k) (ae (ne_sn a l) a)) rfl rfl,Zb,bt (ae f g) rfl,sf R (ae f g) l7 rfl (lv i rfl),(l8),Zk,Zm,Zc rfl,bC (ae f g) rfl,aO (ae (ne_sn a k) (ae (ne_sn a l) a)) rfl rfl,Zb,dW (ae (ne_sn C k) (ae (ne_sn C l) C)) (dM A rfl),Zb,bt (ae f g) rfl];have hl:(aT es).length=xs.length:=by unfold aT;rewrite[aq];refine' aj J.length ?_;rfl
 refine sv R (lP ⟨gV,WB A⟩) (ae f g) l8 rfl (lv i rfl) (λ_ l9=>?_) (λr=>absurd ⟨gV,WB A⟩ r);rw[hl,gN] at l9⊢;have W:∀j,j<8->rG (h j):=λj hj=>by
  refine Y0 hj ?_ ?_ ?_ ?_ ?_ ?_ ?_ ?_
  ·exact r0
  ·exact r1
  ·exact r2
  ·exact r3
  ·exact r4
  ·exact r5
  ·exact r6
  ·exact Y
 generalize L:(vi (h 0)++vi (h 1)++vi (h 2)++vi (h 3)++vi (h 4)++vi (h 5)++vi (h 6)++vi (h 7)++[fb rej]++vr xs.length)=b0;have I:b0.length<=91:=by refine' c_ L ?_;exact l9
 rewrite[jE];erw[aj L,Z_,Zl rfl,aO (ae (ne_sn a k) (ae (ne_sn a l) a)) rfl rfl];refine Gd (o _ _ _ C) (dM A rfl) (λs ρ F=>∃ZE t u z,s=aT ZE/\t++u=xs/\dU H ZE u/\(∀x∈t,x.In)/\ρ 0=some (.ref m)/\ρ 1=some (.ref c)/\F=upd (upd H c (pY p)) p (.c9 z)/\z=b0++(t.map λx=>tx x.oct).flatten/\z.length<=91+310*t.length)
  ⟨es,[],xs,_,rfl,rfl,J,(λ_ h=>nomatch h),rfl,rfl,rfl,by simp,fp [(av,zn 91)] (av,zp (zn 91) aX) rt I⟩ (λρ F=>(NU · λZE t u z e1 e2 e3 e4 e5 e6 e7 e8 M=>?_)) λv s ρ F ih=>(NU · λZE t u z e1 e2 e3 e4 e5 e6 e7 e8 M=>?_)
 ·induction ZE using lcs with
  |cons=>injection e1
  |nil=>
   induction u using lcs with
   |cons=>exact e3.elim
   |nil=>
    rw[bb] at e2;replace e2:=e2.symm;subst e2;subst e7;have U:=B.len;have Ve:z.length<=3191:=by exact gP [(zm 310 av,zm 310 aX),(zm 310 aX,zm 310 (zn 10)),(bT,zp (zn 91) (zm 310 av))] (bT,zn 3191) rt (aP 310 (aa (ao hl))) (aP 310 A) M
    have D:∀G,G.length<=5402->G=z++y8 sn->aZ af w K n 313 [.ref c,.bytes cj] (upd (upd H c (pY p)) p (.c9 G)) (λx F=>bN af w K aH n [S.ret (some ((E.loc 1).bp 7 []))] ρ F (dF Q) (cG X)) (cG X):=λG lb eb=>by
     erw[sl R (ae f g) lb rfl B.cb rfl (lv i rfl),(YV),Zt,Zm,<-Zc e6 ?_,bC (ae f g) rfl,Zb,bt (ae f g) rfl,sd R (ae f g) YV rfl (lv i rfl)];have:=q ⟨W,e4⟩;unfold xB at this;rw[L,<-e8,<-eb] at this;exact bH (o _) this
    induction hs using EI.casesOn with
    |none=>
     erw[Zk,Zm,<-Zc e6 ?_,bC (ae f g) rfl,Za,Zac,<-Zl e5 ?_,aO (ae (ne_sn a k) (ae (ne_sn a l) a)) rfl rfl,lg rfl,Zb,bt (ae f g) rfl,sf R (ae f g) Ve rfl (lv i rfl),(WN),Zh,ZS,<-Zl e5 ?_,aO (ae (ne_sn a k) (ae (ne_sn a l) a)) rfl rfl,lg rfl,Zi,Ze,Zd,Zk,Zm,<-Zc e6 ?_,bC (ae f g) rfl,Za,<-Zl e5 ?_,aO (ae (ne_sn a k) (ae (ne_sn a l) a)) rfl rfl,Zb,bt (ae f g) rfl,<-D _ (aF WN (dc rfl)) rfl]
    |some V=>
     erw[Zk,Zm,<-Zc e6 ?_,bC (ae f g) rfl,Za,Zac,<-Zl e5 ?_,aO (ae (ne_sn a k) (ae (ne_sn a l) a)) rfl rfl,lg rfl,Zb,bt (ae f g) rfl,sf R (ae f g) Ve rfl (lv i rfl),(WN),Zh,ZS,<-Zl e5 ?_,aO (ae (ne_sn a k) (ae (ne_sn a l) a)) rfl rfl,lg rfl,Zp,Zk,Zm,<-Zc e6 ?_,bC (ae f g) rfl,<-Zl e5 ?_,aO (ae (ne_sn a k) (ae (ne_sn a l) a)) rfl rfl,Zb,Aw R (B.sb _ rfl) (V.ext (o _)) (lv i rfl),(ls),Zb,bt (ae f g) rfl,sl R (ae f g) WN rfl ls rfl (lv i rfl),(YV),Ze,Zd,Zk,Zm,<-Zc e6 ?_,bC (ae f g) rfl,Za,<-Zl e5 ?_,aO (ae (ne_sn a k) (ae (ne_sn a l) a)) rfl rfl,Zb,bt (ae f g) rfl,<-D _ (aF YV (dc rfl)) (by rw[aC];rfl)]
 ·induction ZE using lcs with
  |nil=>injection e1
  |cons e ZE=>
   induction u using lcs with
   |nil=>exact e3.elim
   |cons O u=>
    injection e1 with e1 IW
    replace e1:=e1.symm;subst e1;replace IW:=IW.symm;subst IW;subst e7;have T:=congrArg cF e2;rw[ah,aV] at T;have U:=B.len;have N:O∈xs:=by refine' c_ e2 ?_;simp
    erw[Zk,Zm,<-Zc e6 ?_,bC (ae f g) rfl,Za,Zz rfl,<-jh R (o _ _ _ e3.1) (B.xb _ N) (lv i rfl) (λP=>?_) (λr=>xf (o _) (x λy=>r (y.xi _ N))),Zb,bt (ae f g) rfl,sl R (ae f g) M (d4.mpr (gP [(zm 310 (zp av (zs aX)),zm 310 bT),(zm 310 bT,zm 310 (zn 10))] (zp (zn 91) (zm 310 av),zn 90000) rt (aP 310 (aa T)) (aP 310 U))) (En.gI (B.xb _ N).d P) rfl (lv i rfl),(Ve),Ze,<-⟨o _ _ _ C,ih _ _ ⟨ZE,t++[O],u,_,rfl,by erw[c_ e2];rewrite[aC];rfl,e3.2,λy hy=>?_,e5,e6,rfl,?_,?_⟩⟩]
    ·rcases cC.mp hy with hy|hy
     ·exact e4 y hy
     ·erw[aj (aR.mp hy),<-P]
    ·erw[aj e8,aj aY,aj jt];simp
    ·erw[aj (ah (as:=t)),aj aW,<-fp [(av,zp (zp (zn 91) (zm 310 aX)) (zk (zn 300) 10))] (av,zp (zn 91) (zm 310 (zs aX))) rt Ve]
end
section
variable{G:Hp}
theorem dU.mem{H:Hp}:∀{es:List Addr} {xs:List En} {e:Addr},dU H es xs->e∈es->∃x∈xs,H e=some x.o
 |e::es,x::xs,e',h,hm=>by
  rcases bE.mp hm with q|q
  ·subst q;exact⟨x,kf,h.1⟩
  ·erw[ay (dU.mem h.2 q),(y a r),<-⟨y,fV a,r⟩]
 |[],_,_,_,hm=>by cases hm
 |_::_,[],_,h,_=>h.elim
theorem dU.app{H:Hp}:∀{es p:List Addr} {xs x:List En},dU H es xs->dU H p x->dU H (es++p) (xs++x)
 |[],_,[],_,_,h=>h
 |_::_,_,_::_,_,h,h'=>⟨h.1,dU.app h.2 h'⟩
 |[],_,_::_,_,h,_=>h.elim
 |_::_,_,[],_,h,_=>h.elim
theorem Au(f:En->V)(h:H a=some (.list (aT es)))(l:xs.length<=1000)(k:dU H es xs)(m:∀e x,x∈xs->H e=some x.o->∀G:V->Hp->Prop,G (f x) H->dm af w K aH n elt (upd ρ 1000 (.ref e)) H G Ds)(q:∀c,H c=none->Q (.ref c) (upd H c (.list (xs.map f)))):tj af w K n elt none ρ Q (.ref a) H:=by
 have hl:(aT es).length<=1000:=by unfold aT;rewrite[aq];refine' aj k.length ?_;exact l
 refine sS h hl (λr d j=>j=H/\∃ZE b i,r=aT ZE/\b++i=xs/\d=b.map f/\dU H ZE i) ⟨rfl,es,[],xs,rfl,rfl,rfl,k⟩ (λd j=>gr λe=>(nh · λZE b i e1 e2 e3 e4=>?_)) λv r d j=>gr λe=>(nh · λZE b i e1 e2 e3 e4 G g=>?_)
 ·replace e:=e.symm;subst e
  induction ZE using lcs with
  |cons=>injection e1
  |nil=>
   induction i using lcs with
   |cons=>exact e4.elim
   |nil=>
    rw[bb] at e2;replace e2:=e2.symm;subst e2;subst e3;exact q
 ·replace e:=e.symm;subst e
  induction ZE using lcs with
  |nil=>injection e1
  |cons e ZE=>
   induction i using lcs with
   |nil=>exact e4.elim
   |cons x i=>
    injection e1 with e1 e5
    subst e1;subst e5;exact m e x (by erw[c_ e2];simp) e4.1 G (g _ _ h ⟨rfl,ZE,b++[x],i,rfl,by erw[c_ e2];rewrite[aC];rfl,by erw[aj e3,aj aY];rfl,e4.2⟩)
theorem zC(R:Rd af w K)(a:H m=some (dE h me v rej cj))(d:H me=some (.list (aT es)))(l:dU H es xs)(p:EI H v sn)(k:xs.length<=10)(r:∀s,sn=some s->xh s.ids)(f:aB 2 n=true)(q:Q (CD h xs sn rej cj) H):aZ af w K n 570 [.ref m] H Q X:=by
 erw[R.yr.to rfl f,(n f)];unfold dE at*;erw[Zg,ZL,Za,ZK,Zl rfl,aO a rfl rfl,<-Au (λx=>.tup x.vs) d (dM k rfl) l (λe x l d G g=>?_) λc b=>?_]
 ·erw[Zm,Zc rfl];unfold En.o at d;erw[bC d rfl,Zb,bt d rfl,<-jL R d (lv f rfl) g]
 ·erw[Zb,gj us (by rw[aq];exact dM k rfl)];have i:Ext H (upd H c (.list (xs.map λx=>.tup x.vs))):=Ext.fresh Ext.refl b;erw[Z1 rfl,Zh,ZS,Zl rfl,aO (ae (ne_sn a b) a) rfl rfl]
  induction p using EI.casesOn with
  |none=>
   erw[lg rfl,Zi,Ze,Zd,Zt,i7 rfl,Za,Zl rfl,aO (ae (ne_sn a b) a) rfl rfl,Za,Zl rfl,aO (ae (ne_sn a b) a) rfl rfl,Za,Zl rfl,aO (ae (ne_sn a b) a) rfl rfl,Za,Zl rfl,aO (ae (ne_sn a b) a) rfl rfl,Za,Zl rfl,aO (ae (ne_sn a b) a) rfl rfl,Za,Zl rfl,aO (ae (ne_sn a b) a) rfl rfl,Zr rfl,Za,Zl rfl,aO (ae (ne_sn a b) a) rfl rfl,Zr rfl,Za,Zl rfl,aO (ae (ne_sn a b) a) rfl rfl,Za,Zl rfl,aO (ae (ne_sn a b) a) rfl rfl,Za,Zl rfl,aO (ae (ne_sn a b) a) rfl rfl,Zb,<-bH i q]
  |some j=>
   have L:=i _ _ j.o;unfold Sn.O at L;erw[lg rfl,Zp,Zg,Zm,Zl rfl,aO (ae (ne_sn a b) a) rfl rfl,bC L rfl,Zb,bt L rfl,ET R (r _ rfl) (j.ext i) (lv f rfl),Ze,Zd,Zt,i7 rfl,Za,Zl rfl,aO (ae (ne_sn a b) a) rfl rfl,Za,Zl rfl,aO (ae (ne_sn a b) a) rfl rfl,Za,Zl rfl,aO (ae (ne_sn a b) a) rfl rfl,Za,Zl rfl,aO (ae (ne_sn a b) a) rfl rfl,Za,Zl rfl,aO (ae (ne_sn a b) a) rfl rfl,Za,Zl rfl,aO (ae (ne_sn a b) a) rfl rfl,Zr rfl,Za,Zl rfl,aO (ae (ne_sn a b) a) rfl rfl,Zr rfl,Za,Zl rfl,aO (ae (ne_sn a b) a) rfl rfl,Za,Zl rfl,aO (ae (ne_sn a b) a) rfl rfl,Za,Zl rfl,aO (ae (ne_sn a b) a) rfl rfl,Zb,<-bH i q]
structure OP(H:Hp)(m me:Addr)(es:List Addr):Prop where
 fm:H m=none
 RO:H me=none
 fes:∀e∈es,H e=none
 nd:es.Nodup
structure CoN(me:Addr)(A:BM):Prop where
 v:me≠A.v
 l:me≠A.l
 o:me≠A.o
 n:me≠A.n
theorem U0.ne(f:U0 H A)(h:H me=some mo):CoN me A:=⟨ne_sn h f.v,ne_sn h f.l,ne_sn h f.o,ne_sn h f.n⟩
inductive A2(H H':Hp)(me:Addr):V->Option Sn->Prop
 |none:A2 H H' me .none none
 |some {a:Addr} {A:BM} {s:Sn}:X2 H a A->Br H' a A s->CoN me A->A2 H H' me (.ref a) (some s)
theorem A2.ext{H:Hp}(x:A2 H H' me v s)(e:Ext H' cI):A2 H cI me v s:=by
 induction x using A2.casesOn with
 |none=>exact .none
 |some f h c=>exact .some f (h.ext e) c
theorem fU(h:H a=some x)(k:H b=some y)(n:x≠y):a≠b:=λe=>by
 rw[e,k] at h;exact n (bV h).symm
theorem dU.set{H:Hp}(h:H a=some y)(n:∀x:En,x.o≠y):∀{es:List Addr} {xs:List En},dU H es xs->dU (upd H a z) es xs
 |[],[],_=>trivial
 |_::_,x::_,k=>⟨ae (fU k.1 h (n x)) k.1,dU.set h n k.2⟩
 |[],_::_,k=>k.elim
 |_::_,[],k=>k.elim
theorem Br.set(h:H m=some (.inst 578 fs))(x:Br H a A s):Br (upd H m z) a A s:=
 ⟨ae (fU x.o h (by intro q;cases q)) x.o,ae (fU x.co.c h (by intro q;cases q)) x.co.c,ae (fU x.co.v h (by intro q;injection q)) x.co.v,ae (fU x.co.l h (by intro q;injection q)) x.co.l,ae (fU x.co.o h (by intro q;injection q)) x.co.o,ae (fU x.co.n h (by intro q;injection q)) x.co.n⟩
theorem A2.set{H:Hp}(h:H' m=Option.some (MO.inst 578 fs))(x:A2 H H' me v s):A2 H (upd H' m z) me v s:=by
 induction x using A2.casesOn with
 |none=>exact A2.none
 |some f k c=>exact A2.some f (k.set h) c
theorem D9(R:Rd af w K)(hm:H m=some (dE h me v rej cj))(Y:H me=some (.list (aT es)))(hx:dU H es xs)(hs:EI H v sn)(hz:xs.length<=10)(ho:∀s,sn=some s->xh s.ids)(L:aB 4 n=true)(q:∀i W U p B,Ext H i->OP H W U p->i W=some (dE h U B rej cj)->i U=some (.list (aT p))->dU i p xs->A2 H i U B sn->W≠U->Q (.ref W) i):aZ af w K n 575 [.ref m] H Q X:=by
 erw[R.wJ.to rfl L,(n L)];have a:=hm;unfold dE at*;erw[Zg,ZQ,Za,Zl rfl,aO a rfl rfl,Za,Zl rfl,aO a rfl rfl,Za,Zl rfl,aO a rfl rfl,Za,Zl rfl,aO a rfl rfl,Zb,(c f),<-nY R f (lv L rfl) λd hd ne=>⟨rfl,?_⟩];unfold dE;have nd:=aJ ne;erw[Zu,Zl rfl,aO (ae (ne_sn a f) (ae (ne_sn a hd) a)) rfl rfl,Zc rfl,bQ us rfl rfl,Zu,Zl rfl,aO (ae (ne_sn a f) (ae (ne_sn a f) (ae (ne_sn a hd) a))) rfl rfl,Zc rfl,bQ us rfl rfl,Zu,ZK,Zl rfl,aO (ae (ne_sn a f) (ae (ne_sn a f) (ae (ne_sn a f) (ae (ne_sn a hd) a)))) rfl rfl];rw[bR,bR];generalize hO:(MO.inst 578 _)=O1;have e0:Ext H (upd (upd H d (.list [])) c O1):=Ext.fresh (Ext.fresh Ext.refl hd) f;generalize hHc:upd (upd H d (.list [])) c O1=Hc at e0;have Cx:Hc c=some O1:=by refine' c_ hHc ?_;exact us
 refine sS (e0 _ _ Y) (by unfold aT;rewrite[aq];erw[aj hx.length,<-dM hz rfl]) (λu cL i=>Ext Hc i/\∃ZE C z p,u=aT ZE/\cL=aT p/\C++z=xs/\dU i ZE z/\dU i p C/\(∀e∈p,Hc e=none)/\p.Nodup)
  ⟨Ext.refl,es,[],xs,[],rfl,rfl,rfl,hx.ext e0,trivial,(λ_ h=>nomatch h),pa⟩ (λcL i=>gr λt=>(MJ · λZE C z p e1 e2 e3 e4 e5 e6 e7=>?_)) λv u cL i=>gr λt=>(MJ · λZE C z p e1 e2 e3 e4 e5 e6 e7 G g=>?_)
 ·cases ZE with
  |cons=>injection e1
  |nil=>
   induction z using lcs with
   |cons=>exact e4.elim
   |nil=>
    rw[bb] at e3;subst e3;subst e2;intro S R3;have M:=t _ _ Cx;rw[<-hO] at M;have P:=ne_sn M R3;have T:=aI e0 (aI t R3);have r:∀O,Ext H (upd (upd i S (.list (aT p))) c O):=λO=>Ext.fresh (Ext.fresh (e0.trans t) T) f;have N:∀A B,Ext H A->A c=some (dE (λj=>if j=7 then 0 else h j) S B false [])->A S=some (.list (aT p))->dU A p C->A2 H A S B sn->
      bN af w K aH n [.cD bA 18 (.attr aN 18),.cD bA 19 (.attr aN 19),.cD bA 20 (.attr aN 20),dj bA] (upd (sC ([.ref m]++[])) 1 (.ref c)) A (dF Q) (cG X):=λA B a1 a2 a3 a4 a5=>by
     have Xl:=a1 _ _ hm;unfold dE at a2;erw[Zu,Zl rfl,aO Xl rfl rfl,Zc rfl,bQ a2 rfl rfl,Zu,Zl rfl,aO (ae (ne_sn a f) Xl) rfl rfl,Zc rfl,bQ us rfl rfl,Zu,Zl rfl,aO (ae (ne_sn a f) (ae (ne_sn a f) Xl)) rfl rfl,Zc rfl,bQ us rfl rfl,ZO rfl];rw[bR,bR];refine bH Ext.refl (q _ c S p B (Ext.fresh a1 f) ⟨f,T,λe Y=>aI e0 (e6 e Y),e7⟩ (us.trans ?_) (ae (aJ P) a3) ?_ ?_ P)
     ·rfl
     ·exact a4.set a2 (λx q=>by cases q)
     ·exact a5.set a2
    have D:=t _ _ (e0 _ _ hm);have J:(upd i S (.list (aT p))) c=some O1:=ae P (t _ _ Cx);rw[<-hO] at J;erw[Zc rfl,bQ J rfl rfl,Zu,Zl rfl,aO (ae (ne_sn a f) (ae (ne_sn a T) D)) rfl rfl,Zc rfl,bQ us rfl rfl,Zh,ZS,Zl rfl,aO (ae (ne_sn a f) (ae (ne_sn a f) (ae (ne_sn a T) D))) rfl rfl];rw[bR];have h15:∀O,dU (upd (upd i S (.list (aT p))) c O) p C:=λO=>(e5.ext (Ext.fresh Ext.refl R3)).set J (λx q=>by cases q)
    induction hs using EI.casesOn with
    |none=>
     erw[lg rfl,Zi,Ze,Zd,<-N _ .none (r _) us (ae (aJ P) us) (h15 _) .none]
    |some xd=>
     erw[lg rfl,Zp];have Lk:=λO=>(xd.ext (r O));have k:=λO=>(Lk O).o;unfold Sn.O at k;erw[Zu,Zm,Zl rfl,aO (ae (ne_sn a f) (ae (ne_sn a T) D)) rfl rfl,<-fy (k _) ⟨rfl,?_⟩,Zb,bt (k _) rfl,Ci R (ho _ rfl) (Lk _) (lv L rfl),(A a3 A3 V I s3)];have F:=V _ _ us;erw[Zc rfl,bQ F rfl rfl,Ze,<-N _ (.ref a3) (Ext.fresh ((r _).trans V) f) us (ae (aJ P) (V _ _ (ae (aJ P) us))) ?_ ?_]
     ·exact((h15 _).ext V).set F (λx q=>by cases q)
     ·exact .some ⟨aI (r _) I.o,⟨aI (r _) I.co.c,aI (r _) I.co.v,aI (r _) I.co.l,aI (r _) I.co.o,aI (r _) I.co.n⟩⟩ (s3.set F) (I.co.ne (ae (aJ P) us))
 ·induction ZE using lcs with
  |nil=>injection e1
  |cons e ZE=>
   induction z using lcs with
   |nil=>exact e4.elim
   |cons x z=>
    injection e1 with e1 e8
    subst e1;subst e8;subst e2;erw[Zm,Zc rfl];have E:=e4.1;unfold En.o at E;erw[bC E rfl,Zb,bt E rfl,oJ R e4.1 (lv L rfl),(c2 J)];have QZ:Ext i (upd i c2 x.o):=Ext.fresh Ext.refl J;refine g _ _ (QZ _ _ (t _ _ (e0 _ _ Y))) ⟨t.trans QZ,ZE,C++[x],z,p++[c2],rfl,by unfold aT;erw[aj aY];rfl,by erw[c_ e3];rewrite[aC];rfl,e4.2.ext QZ,dU.app (e5.ext QZ) ⟨us,trivial⟩,λb hb=>?_,?_⟩
    ·rcases cC.mp hb with hb|hb
     ·exact e6 b hb
     ·erw[aj (aR.mp hb),<-aI t J]
    ·refine iL.mpr ⟨e7,by simp,λb hb d' hd' q=>?_⟩;rw[aR.mp hd'] at q;erw[ay (dU.mem e5 hb),(y _ hy)];rw[q,J] at hy;injection hy
end
section
variable{G:Hp}
structure Cm where
 k:Int
 c:Int
 n:Int
 key:List UInt8
 val:List UInt8
 ex:Option (List UInt8)
def Cm.o(c:Cm):MO:=.inst 627 [(2,.int c.k),(21,.int c.c),(22,.int c.n),(23,.bytes c.key),(24,.bytes c.val),(25,Sl c.ex)]
def Cm.vs(c:Cm):List V:=[.int c.k,.int c.c,.int c.n,.bytes c.key,.bytes c.val,Sl c.ex]
def Cm.oct(c:Cm):List UInt8:=vi c.k++vi c.c++vi c.n++tx c.key++tx c.val++JU c.ex
structure Cm.AN(z:Cm):Prop where
 k:big z.k
 c:big z.c
 n:big z.n
 key:z.key.length<=200
 val:z.val.length<=200
 ex:∀d,z.ex=some d->d.length<=200
structure Cm.In(z:Cm):Prop where
 k0:0<=z.k
 k6:z.k<=6
 c:rG z.c
 n:rG z.n
theorem yy(R:Rd af w K)(h:aB 0 n=true)(q:Q .none (upd H a (.inst 627 [(2,.int k),(21,.int c),(22,.int m),(23,.bytes key),(24,.bytes val),(25,v)]))):
  aZ af w K n 610 [.ref a,.int k,.int c,.int m,.bytes key,.bytes val,v] (upd H a (.inst 627 [])) Q X:=by
 erw[R.v8.to rfl h,(n h),Zu,Zc rfl,Zc rfl,bQ us rfl rfl,Zu,Zc rfl,Zc rfl,bQ us rfl rfl,Zu,Zc rfl,Zc rfl,bQ us rfl rfl,Zu,Zc rfl,Zc rfl,bQ us rfl rfl,Zu,Zc rfl,Zc rfl,bQ us rfl rfl,Zu,Zc rfl,Zc rfl,bQ us rfl rfl,Ze]
 repeat rw[bR]
 exact cR Ext.refl q
theorem AV(R:Rd af w K){c:Cm}(h:H a=some c.o)(b:aB 0 n=true)(q:Q (.tup c.vs) H):aZ af w K n 617 [.ref a] H Q X:=by
 erw[R.yk.to rfl b,(n b)];unfold Cm.o at*;erw[Zt,i7 rfl,Za,Zl rfl,aO h rfl rfl,Za,Zl rfl,aO h rfl rfl,Za,Zl rfl,aO h rfl rfl,Za,Zl rfl,aO h rfl rfl,Za,Zl rfl,aO h rfl rfl,Za,Zl rfl,aO h rfl rfl,Zb,<-bH Ext.refl q]
theorem Zae(h:bN af w K aH n b ρ H (ic af w K n ms F X) λc a=>aH.sub c C=true/\X C2 a):bN af w K aH n (.iG b C C2::ms) ρ H F X:=h
theorem ZV(h:bN af w K aH n b ρ H (ic af w K n ms F X) λc a=>aH.sub c C=true/\∀e:Loc,F (.ret v) e a):bN af w K aH n (.kL b C v::ms) ρ H F X:=h
theorem kU(R:Rd af w K){c:Cm}(h:H a=some c.o)(B:c.AN)(g:aB 4 n=true)(q:c.In->Q (.bytes c.oct) H)(x:¬c.In->X 128 H):aZ af w K n 624 [.ref a] H Q X:=by
 erw[R.tn.to rfl g,(n g)];have u:=B.k;unfold Cm.o at*;erw[Zh,ZT,Zn,Zy rfl,Zl rfl,aO h rfl rfl,<-fH (λh0=>?_) (λh0=>?_)]
 ·erw[Z0,Zp,ZZ,vd rfl,Za,Zl rfl,aO h rfl rfl,Zb,tx1 ‹_›,vB,<-xf Ext.refl (x λy=>absurd y.k0 (mh.mpr h0))]
 ·erw[ZM,Zn,Zy rfl,Zl rfl,aO h rfl rfl,<-j7 (λh1=>?_) (λh1=>?_)]
  ·erw[Z0,Zp,ZZ,vd rfl,Za,Zl rfl,aO h rfl rfl,Zb,tx1 ‹_›,vB,<-xf Ext.refl (x λy=>absurd y.k6 (mh.mpr h1))]
  ·erw[ZM,ZD,Zi,Ze,Zd,Zg,Ap R (lv g rfl),(e p j i d)];have l:∀b,Ext H (upd (upd H e (pY p)) p (.c9 b)):=λb=>Ext.fresh (Ext.fresh Ext.refl j) i;have f:(upd H e (pY p)) e=some (.inst 344 [(4,.ref p)]):=us;have m:rG c.k:=⟨h0,Th h1⟩;erw[Zae,Zk,Zm,Zc rfl,bC (ae d f) rfl,Za,Zl rfl,aO (ae (ne_sn h i) (ae (ne_sn h j) h)) rfl rfl,Zb,bt (ae d f) rfl,<-sv R B.k (ae d f) (iY 0) rfl (lv g rfl) (λ_ l1=>?_) (λr=>absurd m r),Zk,Zm,Zc rfl,bC (ae d f) rfl,Za,Zl rfl,aO (ae (ne_sn h i) (ae (ne_sn h j) h)) rfl rfl,Zb,bt (ae d f) rfl,<-sv R B.c (ae d f) l1 rfl (lv g rfl) (λt l2=>?_) (λr=>⟨rfl,xf (l _) (x λy=>r y.c)⟩),Zk,Zm,Zc rfl,bC (ae d f) rfl,Za,Zl rfl,aO (ae (ne_sn h i) (ae (ne_sn h j) h)) rfl rfl,Zb,bt (ae d f) rfl,<-sv R B.n (ae d f) l2 rfl (lv g rfl) (λs l3=>?_) (λr=>⟨rfl,xf (l _) (x λy=>r y.n)⟩),Zk,Zm,Zc rfl,bC (ae d f) rfl,Za,Zl rfl,aO (ae (ne_sn h i) (ae (ne_sn h j) h)) rfl rfl,Zb,bt (ae d f) rfl,sl R (ae d f) l3 rfl B.key rfl (lv g rfl),(l4),Zk,Zm,Zc rfl,bC (ae d f) rfl,Za,Zl rfl,aO (ae (ne_sn h i) (ae (ne_sn h j) h)) rfl rfl,Zb,bt (ae d f) rfl,sl R (ae d f) l4 rfl B.val rfl (lv g rfl),(l5),Zk,Zq,Zr rfl,Za,Zl rfl,aO (ae (ne_sn h i) (ae (ne_sn h j) h)) rfl rfl,Zb,Ct R (ae d f) l5 rfl B.ex (lv g rfl),(l6),Ze,Zd,Zt,Zm,Zc rfl,bC (ae d f) rfl,Zb,bt (ae d f) rfl,sd R (ae d f) l6 rfl (lv g rfl),<-bH (l _) (q ⟨h0,h1,t,s⟩)]
noncomputable def lim(m:Int):Nat->Nat->List En->Nat
 |_,k,[]=>k
 |rh,k,x::xs=>if 0<k/\m<(rh+x.oct.length:Nat) then k else lim m (rh+x.oct.length) (k+1) xs
theorem Qq:lim m rh k (x::xs)=if 0<k/\m<(rh+x.oct.length:Nat) then k else lim m (rh+x.oct.length) (k+1) xs:=rfl
theorem uR(R:Rd af w K){m:Int}(G:H a=some (.list (aT es)))(F:dU H es xs)(B:∀x∈xs,x.AN)(hz:xs.length<=100)(hd:(∀x∈xs,x.In)\/(300*xs.length:Nat)<=m)(u:aB 2 n=true)(q:(∀x∈xs,x.In)->∀c,H c=none->Q (.ref c) (upd H c (.list (aT (es.take (lim m 0 0 xs))))))(x:¬(∀x∈xs,x.In)->X 80 H):aZ af w K n 432 [.ref a,.int m] H Q X:=by
 erw[R.zS.to rfl u,(n u),Z1 rfl,Zg,eR rfl,Zb,(c g),Z_,Zc rfl];have hl:(aT es).length<=1000:=by unfold aT;rewrite[aq];refine' aj F.length ?_;exact dM hz rfl
 refine Gd (Ext.fresh Ext.refl g _ _ G) hl (λf ρ D=>∃ZF ZE l i b,f=aT ZE/\ZF++ZE=es/\l++i=xs/\dU H ZE i/\(∀x∈l,x.In)/\ZF.length=l.length/\b<=300*l.length/\lim m 0 0 xs=lim m b ZF.length i/\ρ 0=some (.ref a)/\ρ 1=some (.int m)/\ρ 2=some (.int b)/\ρ 3=some (.ref c)/\D=upd H c (.list (aT ZF)))
  ⟨[],es,[],xs,0,rfl,rfl,rfl,F,(λ_ h=>nomatch h),rfl,qQ,rfl,rfl,rfl,rfl,rfl,rfl⟩ (λρ D=>(HM · λZF ZE l i b e1 e2 e3 e4 e5 e6 e7 e8 I IW Q5 O QK=>?_)) λv f ρ D J=>(HM · λZF ZE l i b e1 e2 e3 e4 e5 e6 e7 e8 I IW Q5 O QK=>?_)
 ·induction ZE using lcs with
  |cons=>injection e1
  |nil=>
   induction i using lcs with
   |cons=>exact e4.elim
   |nil=>
    rw[bb] at e2 e3;replace e2:=e2.symm;subst e2;replace e3:=e3.symm;subst e3;subst QK;erw[<-ZO O ?_];have:=q e5 c g;rw[e8] at this;replace this:Q (.ref c) (upd H c (.list (aT (es.take es.length)))):=this;rw[List.take_length] at this;exact bH Ext.refl this
 ·induction ZE using lcs with
  |nil=>injection e1
  |cons e ZE=>
   induction i using lcs with
   |nil=>exact e4.elim
   |cons y i=>
    injection e1 with e1 e14
    subst e1;subst e14;subst QK;have s:y∈xs:=by refine' c_ e3 ?_;simp
    have N:=e4.1;have S:=ne_sn N g;have C:=congrArg cF e3;rw[ah,aV] at C;unfold En.o at N;erw[<-zT ⟨_,Q5,?_⟩,Zm,Zc rfl,bC (ae S N) rfl,Zb,bt (ae S N) rfl,<-kT R (ae S e4.1) (B y s) (lv u rfl) (λE=>?_) (λr=>xf (Ext.fresh Ext.refl g) (x λz=>r (z y s))),<-⟨_,_,rfl,rfl,?_⟩];have j:=En.gI (B y s).d E;erw[Zw];rw[<-bh];have A:(aT ZF).length<=100000:=by unfold aT;rw[aq];exact yj [(zp av aX,bT),(bT,zn 100),(gi,av)] (gi,zn 100000) rt (aa C) hz (aa e6)
    have k:¬(0<ZF.length/\m<(b+y.oct.length:Nat))->bN af w K aH n [.expr (.bp dQ 0 [fG])] (upd (upd ρ 4 (.ref e)) 2 (.int (b+y.oct.length:Nat))) (upd H c (.list (aT ZF))) (B8 (λv ρ H Q=>bN af w K aH n [.pK 2 .Add (.bp fG 12 []),.dp (.and [dQ,(.cmp .Gt dC bA)]) [.brk] [],.expr (.bp dQ 0 [fG])] (upd ρ 4 v) H Q (cG X)) (λL=>L a=some (.list (aT es))) (aT ZE) (ic af w K n [dj dQ] (dF Q) (cG X))) (cG X):=λt=>by
     erw[Zk,Zm,<-Zc O ?_,wM us rfl,Zr rfl,Zb,qV us (by assumption),Ze];rw[bR];refine⟨Ext.fresh Ext.refl g _ _ G,J _ _ ⟨ZF++[e],ZE,l++[y],i,b+y.oct.length,rfl,by erw[c_ e2];rewrite[aC];rfl,by erw[c_ e3];rewrite[aC];rfl,e4.2,λz hz=>?_,by erw[aj ah,aj ah,aj e6];rfl,by rewrite[ah,aW];exact gP [(av,zm 300 aX),(bT,zn 300)] (zp av bT,zm 300 (zs aX)) rt e7 j,?_,I,IW,rfl,O,by unfold aT;erw[aj aY];rfl⟩⟩
     ·rcases cC.mp hz with hz|hz
      ·exact e5 z hz
      ·erw[aj (aR.mp hz),<-E]
     ·rewrite[e8,Qq,if_neg t,ah];rfl
    erw[Zh,ZR,Zn,<-Zag O ?_,FJ us A]
    induction ZF using lcs with
    |nil=>
     erw[Z2,Zi,Ze,Zd,<-k (λh=>absurd h.1 (iH _))]
    |cons e0 ZF=>
     erw[Zao,Zn,<-Zj rfl IW ?_,<-j7 (λp=>?_) (λp=>?_)]
     ·erw[Zp,ZD,Zp,Zaz,Zau,<-Zt (ms:=[]) ?_,<-Zc O ?_];have al:∀x∈xs,x.In:=by
       rcases hd with hd|hd
       ·exact hd
       ·exact(lq5 [(zs (zm 300 av),zp aX bT),(aX,zm 300 gi),(bT,zn 300),(zm 300 (zp gi (zs r_)),zm 300 av)] rt (aU.mp (ik hd p)) e7 j (aP 300 (aa C))).elim
      have:=q al c g;rw[e8,Qq,if_pos ⟨ij _,p⟩,<-e2,List.take_left] at this;exact bH Ext.refl this
     ·erw[Z2,Zi,Ze,Zd,<-k (λh=>absurd h.2 (fj.mpr p))]
end
section
variable{G:Hp}
noncomputable def BK(ue:Addr)(off:Nat):MO:=.inst 732 [(17,.none),(15,.ref ue),(26,.int (off:Int))]
theorem Gi(R:Rd af w K)(f:H u=none)(h:aB 0 n=true)(q:∀b,H b=none->u≠b->Q .none (upd (upd H b (.list [])) u (BK b off))):aZ af w K n 666 [.ref u,.int (off:Int)] (upd H u (.inst 732 [])) Q X:=by
 erw[R.uD.to rfl h,(n h),bQ us rfl rfl,Zu,eR rfl,(c e),aD (bo e),(h1 d),aD (bo h1),(h2 _)];have a:=aJ d;erw[Zc rfl,bQ (ae a us) rfl rfl,bQ us rfl rfl];have:=q c h2 (aJ d)
 repeat rw[bR]
 erw[aj (fB a)];rewrite[bR];exact cR Ext.refl this
theorem bG(l:List Addr):(aT l).length=l.length:=by unfold aT;rw[aq]
theorem JH(R:Rd af w K)(a:H u=some (BK ue off))(j:H ue=some (.list (aT es)))(g:dU H es xs)(b:xs.length<=100)(d:aB 1 n=true)(q:Q (.tup [.int (off:Int),.tup (xs.map λx=>.tup x.vs),.none]) H):aZ af w K n 729 [.ref u] H Q X:=by
 erw[R.vQ.to rfl d,(n d)];unfold BK at*;erw[Zg,eR rfl,Zb,(c h),aO (ae (ne_sn a h) a) rfl rfl];have hl:(aT es).length<=1000:=by rewrite[bG];refine' aj g.length ?_;exact dM b rfl
 refine Gd (Ext.fresh Ext.refl h _ _ j) hl (λr ρ f=>∃ZE l i,r=aT ZE/\l++i=xs/\dU H ZE i/\ρ 0=some (.ref u)/\ρ 1=some (.ref c)/\f=upd H c (.list (l.map λx=>.tup x.vs)))
  ⟨es,[],xs,rfl,rfl,g,rfl,rfl,rfl⟩ (λρ f=>(td · λZE l i e1 e2 e3 e4 e5 e6=>?_)) λv r ρ f m=>(td · λZE l i e1 e2 e3 e4 e5 e6=>?_)
 ·induction ZE using lcs with
  |cons=>injection e1
  |nil=>
   induction i using lcs with
   |cons=>exact e3.elim
   |nil=>
    rw[bb] at e2;replace e2:=e2.symm;subst e2;subst e6;erw[<-Zl e4 ?_,aO (ae (ne_sn a h) a) rfl rfl,lg rfl,<-(?_:TT _ _) (Zi<|Ze<|Zd<|Zt ·) ?_,<-λ_ x=>x,i7 rfl,<-Zl e4 ?_,aO (ae (ne_sn a h) a) rfl rfl,Za,ZL,<-ZF e5 ?_,gj us (by rw[aq];exact dM b rfl),<-bH (Ext.fresh Ext.refl h) q]
 ·induction ZE using lcs with
  |nil=>injection e1
  |cons e ZE=>
   induction i using lcs with
   |nil=>exact e3.elim
   |cons y i=>
    injection e1 with e1 e7
    subst e1;subst e7;subst e6;have k:=congrArg cF e2;rw[ah,aV] at k;have N:=e3.1;have S:=ne_sn N h;erw[Zk,Zm,<-Zc e5 ?_,wM us rfl,bC (ae S N) rfl,bt (ae S N) rfl,jL R (ae S e3.1) (lv d rfl),qV us (by rw[aq];exact zwc k b rfl)];rw[bR];exact⟨Ext.fresh Ext.refl h _ _ j,m _ _ ⟨ZE,l++[y],i,rfl,by erw[c_ e2];rewrite[aC];rfl,e3.2,e4,e5,by erw[aj aY];rfl⟩⟩
theorem Lw(l:List Addr)(i j:Nat):cut (aT l) (some (i:Int)) (some (j:Int))=aT ((l.take j).drop i):=by
 unfold cut aT;dsimp only;rewrite[aM,aM];erw[c_ jC,c_ xj];rfl
theorem vC(R:Rd af w K){o lo b:Nat}(a:H u=some (BK ue o))(f:H ue=some (.list (aT es)))(d:es.length<=100)(h0:o<=lo)(h1:lo<=b)(h2:b<=o+es.length)(e:aB 0 n=true)(q:∀c,H c=none->Q (.ref c) (upd H c (.list (aT ((es.take (b-o)).drop (lo-o)))))):aZ af w K n 722 [.ref u,.int (lo:Int),.int (b:Int)] H Q X:=by
 erw[R.uC.to rfl e,(n e)];have hl:=bG es;erw[Zh,Zj rfl rfl,<-j7 (λh=>absurd h (Lc h1)) (λ_=>?_),aO a rfl rfl,<-fH (λh=>absurd h (Lc h0)) (λ_=>?_),aO a rfl rfl,aO a rfl rfl,Zb,dW f (lM hl d rfl),Zw,<-j7 (λh=>absurd h (aj hl (λz=>lq3 [(av,zp aX bT),(zs (zp aX bT),av)] rt h2 (aU.mp z)))) (λ_=>?_),aO a rfl rfl,aO a rfl rfl,ie,aO a rfl rfl,ie,aj (show lo-o=((lo-o:Nat):Int) by exact da (jY [(.sub cN dX,fY)] (.sub cN dX,fY) rt (aG (ao (cW (aw.mp (oE [(cN,dX)] (cN,dX) rt (by assumption))))))) (jY [(cN,.sub dX fY)] (cN,.sub dX fY) rt (aG (cW (aw.mp (oE [(cN,dX)] (cN,dX) rt (by assumption))))))),aj (show b-o=((b-o:Nat):Int) by exact da (jY [(.sub cN dX,fY)] (.sub cN dX,fY) rt (aG (ao (cW (aw.mp (jY [(cN,dX),(dX,fY)] (cN,fY) rt (aw.mpr h0) (aw.mpr h1))))))) (jY [(cN,.sub dX fY)] (cN,.sub dX fY) rt (aG (cW (aw.mp (jY [(cN,dX),(dX,fY)] (cN,fY) rt (aw.mpr h0) (aw.mpr h1))))))),pQ f ⟨Bm,Wj (aF h1 h2) d⟩ ⟨Bm,Wj h2 d⟩ (lM hl d rfl),(c g)];rw[Lw];exact bH Ext.refl (q c g)
theorem fw{i:Nat}(h:l[i]?=some v):MC l (i:Int)=some v:=by
 unfold MC;erw[aj (if_pos gV)];rewrite[aM];exact h
theorem jN{i:Nat}(h:l[i]?=some a):(aT l)[i]?=some (.ref a):=by
 unfold aT;erw[aj (cP),aj h];rfl
theorem dU.get{H:Hp}:∀{es:List Addr} {xs:List En} {i:Nat} {e:Addr},dU H es xs->es[i]?=some e->∃x,xs[i]?=some x/\H e=some x.o
 |_::_,x::_,0,_,h,q=>by simp at q;subst q;exact⟨x,rfl,h.1⟩
 |_::_,_::_,i+1,_,h,q=>by
  erw[ay (dU.get h.2 (by simpa using q)),(x a b),<-⟨x,by simpa using a,b⟩]
 |[],_,_,_,_,q=>by simp at q
 |_::_,[],_,_,h,_=>h.elim
theorem Je(R:Rd af w K){a O:Nat}{x:En}(r:H u=some (BK ue a))(A:H ue=some (.list (aT es)))(f:H fa=some (.list (aT fs)))(P:fs=f0::fs')(N:H f0=some x.o)(S:x.i=(O:Int))(l:es.length<=100)(m:fs.length<=10)(h2:O<=a+es.length)(D:aB 1 n=true)(q:∀c B,(∀b mo,b≠u->H b=some mo->B b=some mo)->H c=none->B c=some (.list (aT (es.take (O-a)++fs)))->B u=some (BK c (min a O))->Q .none B):aZ af w K n 715 [.ref u,.ref fa] H Q X:=by
 erw[R.hK.to rfl D,(n D)];have hl:=bG es;have Y:=bG fs;have E:fs.length=fs'.length+1:=by refine' aj P ?_;rfl
 have p:=r;unfold BK En.o at*;rw[S] at N;erw[Zh,Zy rfl,ZG rfl,dW f (lM Y m rfl),<-cq (λh=>absurd h (aj Y (λC=>FQ [(zs av,aX),(aX,zn 0)] rt (aa (ao E)) (aa (fF C))))) (λ_=>?_),ax f (lM Y m rfl) (fw (jN (aj P rfl))),aO N rfl rfl,Zh,ZH,Zc rfl,ZC,Zl rfl,aO p rfl rfl,aO p rfl rfl,Zb,dW A (lM hl l rfl),Zw,<-cq (λh=>?_) (λh=>?_)]
 ·erw[Zp,Zu,Zv rfl,Zl rfl,aO p rfl rfl,Dk A f (aj hl (aj Y (Oq l m rfl))),(c e)];have L:=ne_sn r e;erw[Zc rfl,bQ (ae L p) rfl rfl,<-cR Ext.refl (q c _ (λb mo j k=>?_) e ?_ ?_)]
  ·exact ae j (ae (ne_sn k e) k)
  ·erw[ae (aJ L)];rewrite[cX];erw[aj (show O-a=es.length by rw[hl] at h;exact aS (yj [(av,zp aX bT),(zp gi aX,av)] (gi,bT) rt (aa (fF h)) (aa (bM (gP [(zp av aX,bT)] (av,bT) rt (aa (ao (fF h))))))) (yj [(zp av aX,bT),(bT,zp gi av)] (aX,gi) rt (aa (ao (fF h))) (aa (ao (bM (gP [(zp av aX,bT)] (av,bT) rt (aa (ao (fF h))))))))),aj List.take_length];unfold aT;erw[aj aY];rfl
  ·rewrite[cX];erw[aj (show min a O=a from fc (aw.mp (by rw[h];exact Int.le_add_of_nonneg_right gV)))];rfl
 ·erw[Zi,Zh,ZH,Zc rfl,Zl rfl,aO p rfl rfl,<-DS (λy=>?_) (λy=>?_)]
  ·have F:=fU f r (by intro z;injection z);erw[bQ p rfl rfl,Zu,Z9,Zc rfl,ZW,ZW,pQ (ae F f) trivial trivial (aj Y (dM m rfl)),(c e),aD (bo e),(t L)];have I:=aJ L;erw[Zc rfl,bQ (ae I us) rfl rfl,<-cR Ext.refl (q c _ (λb mo j k=>?_) t ?_ ?_)]
   ·exact ae j (ae (ne_sn k t) (ae j k))
   ·erw[ae L];rewrite[cX];erw[aj (show O-a=0 by exact XE y),aj kQ];rewrite[jE];rfl
   ·rewrite[cX];erw[aj (show min a O=O from mf (aw.mp y))];rfl
  ·erw[Zi,Zh,ZH,Zc rfl,ZC,Zl rfl,aO p rfl rfl,aO p rfl rfl,Zb,dW A (lM hl l rfl),Zw,<-fH (λv=>?_) (λv=>absurd v (by rw[hl] at h⊢;exact λJ=>(pf h).elim (λM=>ly3 [(yp cN dX,fY),(ys fY,yp cN dX)] rt J M) (λM=>ly4 [(cN,yp dX fY),(vH,cN),(ys (yp dX fY),vH)] rt (aG (bh _ _)) (aw.mpr h2) M))),Zp,Zu,Zv rfl,Zm,Zc rfl,bC p rfl,aO p rfl rfl,ZF rfl,bt p rfl,vC R p A l qQ (fp [(zs av,aX)] (av,aX) rt (aU.mp y)) h2 (lv D rfl),(c e)];have L:=ne_sn r e;have G:=ne_sn f e;erw[Dk us (ae G f) (by rewrite[bG,bG];erw[aj eD,aj dP,<-aF (Dx (aF (i5 _ _) (aF (g_ _ _) l)) m) (dc rfl)]),(d U),aD (bo U),(g T)];have s:=ne_sn r g;erw[Zc rfl,bQ (ae s (ae L p)) rfl rfl,<-cR Ext.refl (q d _ (λb mo j k=>?_) g ?_ ?_)]
   ·exact ae j (ae (ne_sn k g) (ae (ne_sn k e) k))
   ·erw[ae (aJ s)];rewrite[cX,oC];erw[aj fS];unfold aT;erw[aj aY];rfl
   ·rewrite[cX];erw[aj (show min a O=a from fc (gk (aU.mp y)))];rfl
theorem CZ(R:Rd af w K){x:En}(l:H u=some (BK ue off))(i:H ue=some (.list (aT es)))(m:es[k]?=some e)(s:H e=some x.o)(a:es.length<=100)(f:aB 1 n=true)(q:∀c g,(∀b mo,b≠u->H b=some mo->g b=some mo)->H c=none->g c=some (.list (aT (es.drop (k+1))))->g u=some (BK c (off+k+1))->Q .none g):aZ af w K n 694 [.ref u,.int ((off+k:Nat):Int),.int x.t] H Q X:=by
 erw[R.mR.to rfl f,(n f)];have hl:=bG es;have O:=(jk.mp m).1;have p:=l;have P:=s;unfold BK at*;erw[aO p rfl rfl,<-fH (λh=>absurd h Xk) (λ_=>?_),bC p rfl,bt p rfl,R.md.to (d:=0) rfl (lv f rfl),(n f)];unfold En.o at*;erw[Zh,ZH,Zc rfl,Zl rfl,aO p rfl rfl,<-fH (λh=>absurd h Xk) (λ_=>?_),Zi,Ze,Zd,Zh,ZH,Zc rfl,ZC,Zl rfl,aO p rfl rfl,aO p rfl rfl,Zb,dW i (lM hl a rfl),Zw,<-oj (λh=>absurd h (aj hl (λz=>lq3 [(zs av,aX),(zp bT aX,zp bT av)] rt O (aw.mp z)))) (λ_=>?_),aO p rfl rfl,aO p rfl rfl,Z3,aj (show((off+k:Nat)-off)=(k:Int) by exact da (jY [(cN,yp dX fY)] (.sub cN dX,fY) rt (aG (bh _ _))) (jY [(yp cN dX,fY)] (dX,.sub fY cN) rt (aG (ao (bh _ _))))),ax i (lM hl a rfl) (fw (jN m)),aO P rfl rfl,<-⟨_,Ext.refl,?_⟩,lg rfl,ZM,Zn,Zj rfl rfl,<-wF (λ_=>?_) (λh=>absurd rfl h),aO p rfl rfl,aO p rfl rfl,ie,ZW,aj (show((off+k:Nat)+1-off)=((k+1:Nat):Int) by exact Yo),pQ i ⟨Bm,aU.mpr (fp [(zs av,aX),(aX,zn 100)] (zs (zs av),zn ((2^60))) rt O a)⟩ trivial (lM hl a rfl),(c j)];have L:=ne_sn l j;erw[bQ (ae L p) rfl rfl,bQ us rfl rfl,Ze,<-cR Ext.refl (q c _ (λb mo r k=>?_) j ?_ ?_)]
 ·exact ae r (ae r (ae (ne_sn k j) k))
 ·refine ae (aJ L) (ae (aJ L) ?_);rw[cX];unfold cut aT;dsimp only;rewrite[aM];erw[c_ xj];rfl
 ·rw[cX];rfl
end
section
variable{G:Hp}
noncomputable def nC(k:Nat):List V:=(gw k).map λi:Nat=>V.int (i:Int)
theorem vj(k:Nat):gK 0 (k:Int)=nC k:=by
 unfold gK nC;erw[aj (show((k:Int)-0).toNat=k by exact aav)];exact dR λi _=>by rw[Int.zero_add]
theorem oH(h:dm af w K aH n hi ρ H (λv c=>∃k,v=.int k/\(0:Int)<=0/\(0:Int)<=1000/\0<=k/\k<=1000/\forL (λv ρ H Q=>bN af w K aH n b (upd ρ x v) H Q X) (λ_=>True) (gK 0 k) ρ c (ic af w K n ms F X)) X):
  bN af w K aH n (.forR x none hi b::ms) ρ H F X:=h
theorem uA(l:k<=1000)(I:List V->Loc->Hp->Prop)(h1:I (nC k) ρ H)(h0:∀ρ H,I [] ρ H->bN af w K aH n ms ρ H F X)(h:∀v r ρ H,(∀e a,I r e a->forL (λv ρ H Q=>bN af w K aH n b (upd ρ x v) H Q X) (λ_=>True) r e a (ic af w K n ms F X))->I (v::r) ρ H->
   bN af w K aH n b (upd ρ x v) H (B8 (λv ρ H Q=>bN af w K aH n b (upd ρ x v) H Q X) (λ_=>True) r (ic af w K n ms F X)) X):
  (0:Int)<=0/\(0:Int)<=1000/\0<=(k:Int)/\(k:Int)<=1000/\forL (λv ρ H Q=>bN af w K aH n b (upd ρ x v) H Q X) (λ_=>True) (gK 0 k) ρ H (ic af w K n ms F X):=
 ⟨Int.le_refl _,by decide,gV,Yc l,by rw[vj];exact wD I _ h1 h0 h⟩
theorem OH{a q s:Nat}(h:a<2^s):jj (a:Int) ((q:Int)*2^s)=((a+q*2^s:Nat):Int):=by
 have e:=Dr h q;have c:(q*2^s)=((2^s*q:Nat):Int):=by rw[tR];simp
 erw[aj c];rewrite[B4,Nat.or_comm];erw[c_ e];rw[Nat.add_comm,tR]
theorem xU(h:x<256):(cM x).toNat=x:=by
 erw[aj UInt8.toNat_ofNat',<-A7 h]
theorem PU{p l:List UInt8}(h:l[k]?=some x):(p++l)[p.length+k]?=some x:=by
 erw[aj (iW uX)];rewrite[j6];exact h
theorem AS(R:Rd af w K)(J:m<=most)(hl:(vr m).length<=oc)(g:oc<=10)(A:(pre++(vr m++rest)).length<=100000)(B:aB 0 n=true)(q:Q (.tup [.int (m:Int),.int ((pre.length+(vr m).length:Nat):Int)]) H):aZ af w K n 144 [.bytes (pre++(vr m++rest)),.int (pre.length:Int),.int (oc:Int),.int (most:Int)] H Q X:=by
 erw[R.yi.to rfl B,(n B),Zh,Zj rfl rfl,<-fH (λh=>absurd h Mz) (λ_=>?_),Zi,Ze,Zd,Z1 rfl,Z1 rfl,oH,Zc rfl,ie];refine uA (aF g (dc rfl)) (λr ρ f=>∃(t:Nat)(p:List UInt8)(a z:Nat),pre++(vr m++rest)=p++(vr z++rest)/\p.length=pre.length+t/\t+(vr z).length=(vr m).length/\(vr z).length<=r.length/\a<2^(7*t)/\m=a+z*2^(7*t)/\
   t<=10/\ρ 0=some (.bytes (pre++(vr m++rest)))/\ρ 1=some (.int p.length)/\ρ 3=some (.int most)/\ρ 4=some (.int a)/\ρ 5=some (.int (7*t:Nat))/\f=H)
  ?_ (λρ f=>(Tt · λt p a z e1 e2 e3 e4 _=>absurd (aF (vf z) e4) (dc rfl))) λv r ρ f D=>(PH · λt p a z e1 e2 e3 e4 e5 e6 e7 e8 d IW Q5 O QK=>?_)
 ·exact⟨0,pre,0,m,rfl,rfl,IK _,by unfold nC;rewrite[aq];erw[aj d8,<-hl],by decide,by simp,by decide,rfl,rfl,rfl,rfl,rfl,rfl⟩
 subst QK;rw[e1] at e8 A;have C:∀x l,vr z=x::l->(p++(vr z++rest))[((p.length:Nat):Int).toNat]?=some x:=λx l e=>by
  rewrite[aM];erw[aj e,<-PU (k:=0) rfl]
 have c:(p++(vr z++rest)).length<=1000000:=by exact dM A rfl
 have i:p.length<(p++(vr z++rest)).length:=by
  have:=vf z;erw[aj ah,aj ah,<-gP [(zn 1,av)] (zs aX,zp aX (zp av bT)) rt this]
 erw[Zh,ZH,<-Zc d ?_,<-ZG e8 ?_,fe (by assumption),<-oj (λh=>absurd h (NN i)) (λ_=>?_)];have j:2^((7*t:Nat):Int).toNat=2^(7*t):=by rw[aM]
 have s:∀o y:Nat,o&&& 127=y->y<128->∀F:V->Hp->Prop,F (.int (a+y*2^(7*t):Nat)) f->kI .LShift (.int (gE o 127)) (.int (7*t:Nat)) f (λv L=>∃N M,V.int a=.int N/\v=.int M/\kI .BitOr (.int a) v L F):=λo y g E F h=>by
  erw[aj (show gE o 127=y from(z_ o 127).trans (aj g rfl)),<-⟨gV,by lia,by rw[cT];exact P6 E rfl,?_⟩,aj j,<-⟨_,_,rfl,rfl,Zax ?_⟩,aj (OH e5),<-h]
 have u:∀o:Nat,o&&& 127=o%128:=λo=>by refine' aj (show 127=2^7-1 from rfl) ?_;rw[A6]
 by_cases I:z<128
 ·have b:=qE I;erw[Zi,Ze,Zd,Zg,<-Zf e8 d ?_,mw c gV (C _ [] b),aj (xU (P6 I rfl)),zt d,ZA,<-⟨_,_,rfl,rfl,?_⟩,Zw,<-zT ⟨_,Q5,?_⟩,<-Zv O ?_,Zs rfl rfl,Zam,s z z ((u z).trans (A7 I)) I _,c_ e6,Zh,Zj rfl rfl,<-fH (λ_=>?_) (λh=>absurd h (So I)),Zp,Zh,<-Zj rfl IW ?_,<-j7 (λh=>absurd h (Lc J)) (λ_=>?_),Zi,Ze,Zd,<-Zt ?_,i7 rfl,ZE rfl rfl,Z8,aj (show p.length+1=((pre.length+(vr m).length:Nat):Int) by erw[c_ e3,aj b,aj aW,<-congrArg gX (aS (gP [(av,zp aX bT)] (zs av,zp aX (zs bT)) rt (aa e2)) (gP [(zp av aX,bT)] (zp av (zs aX),zs bT) rt (aa (ao e2))))]),<-bH Ext.refl q]
 ·have I:=bW I;have b:=zH I;erw[Zi,Ze,Zd,Zg,<-Zf e8 d ?_,mw c gV (C _ _ b),aj (xU Wd),zt d,ZA,<-⟨_,_,rfl,rfl,?_⟩,Zw,<-zT ⟨_,Q5,?_⟩,<-Zv O ?_,Zs rfl rfl,Zam,s (z%128+128) (z%128) ((u _).trans ((Nat.add_mod_right _ _).trans (Nat.mod_mod _ _))) kv _,Zh,Zj rfl rfl,<-fH (λh=>absurd h (λY=>cH [(zs (zk av 128),zn 128)] rt (aU.mp Y))) (λ_=>?_),Zi,Ze,Zd,<-zT ⟨_,O,?_⟩,ZA,<-⟨_,_,rfl,rfl,?_⟩,Zw,Ze];have pw:2^(7*(t+1))=2^(7*t)*128:=by rw[Nat.mul_add,Nat.pow_add]
  have W:z%128*2^(7*t)<=127*2^(7*t):=Nat.mul_le_mul_right _ (dK [(zs av,zn 128)] (av,zn 127) rt kv);have G:t+1<=10:=by
   have:=vf (z / 128);rw[b,aV] at e3;exact yj [(zp av (zs aX),bT),(bT,gi),(gi,zn 10)] (zs av,zn 10) rt (aa e3) hl g
  refine⟨trivial,D _ _ ⟨t+1,p++[cM (z%128+128)],a+z%128*2^(7*t),z / 128,?_,?_,?_,?_,?_,?_,G,e8.trans (aj e1 rfl),?_,IW,rfl,?_,rfl⟩⟩
  ·erw[aj e1,aj b];rewrite[aC];rfl
  ·erw[aj ah,aj aW,<-aS (gP [(av,zp aX bT)] (zs av,zp aX (zs bT)) rt (aa e2)) (gP [(zp av aX,bT)] (zp av (zs aX),zs bT) rt (aa (ao e2)))]
  ·erw[c_ e3,aj b,aj aV,<-aS (fp [] (zp (zs av) aX,zp av (zs aX)) rt) (fp [] (zp av (zs aX),zp (zs av) aX) rt)]
  ·rw[b,aV,aV] at e4;exact fp [(zs av,zs aX)] (av,aX) rt e4
  ·erw[aj pw,<-A8 (lq (Yw _ _ _) [((zp av (zn 1)),aX),(bT,(.mulL 127 aX)),((.mulR aX 128),(zp av bT))] rt e5 W)]
  ·erw[aj pw,aj e6];rewrite[q8];erw[aj (tR (2^(7*t)) 128)];rewrite[<-Nat.mul_assoc,<-Nat.add_mul];erw[aj (tR (z / 128) 128)];rw[Nat.mod_add_div]
  ·erw[aj ah,aj aW];rfl
  ·erw[aj (show((7*t:Nat)+7)=(7*(t+1):Nat) by exact rfl)];rfl
end
section
variable{G:Hp}
theorem mG{d x y:List UInt8}(h:d.drop a=x++y):d.drop (a+x.length)=y:=by
 erw[c_ List.drop_drop,aj h,aj List.drop_left];rfl
theorem wL{d y:List UInt8}(h:d.drop a=x::y):d[a]?=some x:=by
 have:=congrArg (·[0]?) h
 simpa[List.getElem?_drop] using this
theorem wA{d y:List UInt8}(h:d.drop a=x::y):a<d.length:=(jk.mp (wL h)).1
theorem zw(m:Nat):∃x l,vr m=x::l/\(m<128->x=cM m/\l=[])/\(128<=m->128<=x.toNat):=by
 by_cases h:m<128
 ·exact⟨_,_,qE h,λ_=>⟨rfl,rfl⟩,λq=>absurd h (tP.mpr q)⟩
 ·exact⟨_,_,zH (bW h),λq=>absurd q h,λ_=>by erw[aj (xU Wd),<-dK [] (zn 128,zk av 128) rt]⟩
theorem Sb(h:dm af w K aH n o ρ H (λx c=>yo x k c λu=>dm af w K aH n e ρ c (λv d=>∃a b,u=.int a/\v=.int b/\kI op u v d λr g=>kX x k r g λf=>bN af w K aH n ms ρ f F X) X) X):bN af w K aH n (.Cg o k op e::ms) ρ H F X:=h
theorem Rw{is:List Nat}{P:List V->Prop}(l:vs.length=is.length)(l8:dO is.length 8=true)(q:P vs):∃F,V.tup vs=.tup F/\F.length=is.length/\is.length<=8/\P F:=⟨vs,rfl,l,aE l8,q⟩
theorem BS(R:Rd af w K)(h:d.drop a=vr m++rest)(k:m<=most)(hl:(vr m).length<=oc)(i:oc<=10)(g:d.length<=100000)(j:aB 0 n=true)(q:Q (.tup [.int (m:Int),.int ((a+(vr m).length:Nat):Int)]) H):aZ af w K n 144 [.bytes d,.int (a:Int),.int (oc:Int),.int (most:Int)] H Q X:=by
 erw[df (zw m),(x l e _)];have b:=wA (aj h (aj e rfl));have f:d=d.take a++(vr m++rest):=by refine' c_ h ?_;rw[ui]
 have c:(d.take a).length=a:=by refine' aj dP ?_;exact fc (gk b)
 have:=AS (Q:=Q) (X:=X) R k hl i (c_ f g) j (aj c q);rw[<-f,c] at this;exact this
theorem zN(R:Rd af w K)(h:d.drop a=vr m++rest)(j:m<2^64)(g:d.length<=100000)(c:aB 1 n=true)(q:Q (.tup [.int (m:Int),.int ((a+(vr m).length:Nat):Int)]) H):aZ af w K n 158 [.bytes d,.int (a:Int)] H Q X:=by
 erw[R.yf.to rfl c,(n c),dg (zw m),(x l e h1 h2)];have N:d.drop a=x::(l++rest):=by refine' aj h ?_;refine' aj e ?_;rfl
 have f:=wA N;have b:d.length<=1000000:=by exact dM g rfl
 have k:d[((a:Nat):Int).toNat]?=some x:=by rw[aM];exact wL N
 erw[Zh,ZR,Zn,Zj rfl rfl,<-oj (λ_=>?_) (λh=>absurd h Mz),Zp,Zn,ZH,Zc rfl,ZG rfl,fe (by assumption),<-fH (λ_=>?_) (λh=>absurd h (NN f)),Zp,Zn,Zy rfl,Zf rfl rfl,mw b gV k,<-fH (λi=>?_) (λi=>?_)]
 ·have z:=A9 λq=>absurd (h2 q) (Rh i);erw[aD (h1 z),(p o)];subst p;subst o;erw[Zp,ZD,Zp,Zt,i7 rfl,Za,Zf rfl rfl,mw b gV k,aj (xU (P6 z rfl))];rw[e] at q;exact bH Ext.refl q
 ·erw[Zi,Zi,Ze,Zd,Zt,Zq,Zaf rfl rfl rfl rfl,BS R h (zw5 j rfl) (fR 9 _ (by exact P6 j rfl)) qQ g (lv c rfl),<-bH Ext.refl q]
theorem xM(R:Rd af w K)(h:d.drop a=vr m++rest)(j:m<2^20)(g:d.length<=100000)(c:aB 1 n=true)(q:Q (.tup [.int (m:Int),.int ((a+(vr m).length:Nat):Int)]) H):aZ af w K n 172 [.bytes d,.int (a:Int)] H Q X:=by
 erw[R.uT.to rfl c,(n c),dg (zw m),(x l e h1 h2)];have N:d.drop a=x::(l++rest):=by refine' aj h ?_;refine' aj e ?_;rfl
 have f:=wA N;have b:d.length<=1000000:=by exact dM g rfl
 have k:d[((a:Nat):Int).toNat]?=some x:=by rw[aM];exact wL N
 erw[Zh,ZR,Zn,Zj rfl rfl,<-oj (λ_=>?_) (λh=>absurd h Mz),Zp,Zn,ZH,Zc rfl,ZG rfl,fe (by assumption),<-fH (λ_=>?_) (λh=>absurd h (NN f)),Zp,Zn,Zy rfl,Zf rfl rfl,mw b gV k,<-fH (λi=>?_) (λi=>?_)]
 ·have z:=A9 λq=>absurd (h2 q) (Rh i);erw[aD (h1 z),(o p)];subst o;subst p;erw[Zp,ZD,Zp,Zt,i7 rfl,Za,Zf rfl rfl,mw b gV k,aj (xU (P6 z rfl))];rw[e] at q;exact bH Ext.refl q
 ·erw[Zi,Zi,Ze,Zd,Zt,Zq,Zaf rfl rfl rfl rfl,BS R h (zw5 j rfl) (fR 4 _ (by exact P6 j rfl)) (dc rfl) g (lv c rfl),<-bH Ext.refl q]
theorem xQ(R:Rd af w K)(h:d.drop a=tx b++rest)(j:b.length<=10000)(c:d.length<=100000)(g:aB 2 n=true)(q:Q (.tup [.bytes b,.int ((a+(tx b).length:Nat):Int)]) H):aZ af w K n 186 [.bytes d,.int (a:Int)] H Q X:=by
 erw[R.ur.to rfl g,(n g)];have f:d.length<=1000000:=by exact dM c rfl
 have i:d.drop a=vr b.length++(b++rest):=by refine' aj h ?_;unfold tx;rw[aC]
 have h2:=mG i;have hl:a+(vr b.length).length+b.length<=d.length:=by
  have e:=congrArg cF i;rw[eD,ah,ah] at e;have:=vf b.length;exact Qh [(zp av (zp aX (zp bT gi)),r_)] (zp (zp av aX) bT,r_) rt (aa (Yf e (a_ this uX)))
 erw[xM R i (aK j (aE rfl)) c (lv g rfl),Rw rfl rfl,Zh,ZH,Zs rfl rfl,Zw,ZG rfl,fe (by assumption),<-j7 (λh=>absurd h (λV=>lq3 [(zp av aX,bT),(zs bT,zp av aX)] rt hl (aU.mp V))) (λ_=>?_),Zi,Ze,Zd,Zt,i7 rfl,ie,ie,K3 ⟨Bm,aU.mpr (gP [(zp av aX,bT),(bT,zn 100000)] (zs av,zn ((2^60))) rt hl c)⟩ ⟨XQ,aU.mpr (gP [(zp av aX,bT),(bT,zn 100000)] (zs (zp av aX),zn ((2^60))) rt hl c)⟩ f,<-⟨_,Ext.refl,?_⟩];have e1:cut d (some (a+(vr b.length).length:Nat)) (some ((a+(vr b.length).length:Nat)+b.length))=b:=by
  unfold cut;dsimp only;rewrite[aM,<-bh,aM];erw[aj List.drop_take,aj h2];rewrite[j6];erw[aj List.take_left];rfl
 have e2:(a+(vr b.length).length:Nat)+b.length=((a+(tx b).length:Nat):Int):=by
  unfold tx;erw[aj ah,<-da (X5 [(yp cN dX,fY),(yp vH fY,U2),(yx5,yp vH cN)] (yp yx5 dX,U2) rt (aG (ao (bh _ _))) (aG (ao (bh _ _))) (aG (bh _ _))) (X5 [(yp cN dX,fY),(vH,yp dX U2),(yx5,yp cN vH)] (yx5,yp fY U2) rt (aG (ao (bh _ _))) (aG (bh _ _)) (aG (bh _ _)))]
 erw[aj e1,aj e2,<-q]
noncomputable def cO(d:List UInt8)(a:Nat):MO:=.inst 267 [(3,.bytes d),(5,.int (a:Int))]
theorem Qe(R:Rd af w K)(e:d.length<=100000)(a:aB 0 n=true)(q:Q .none (upd H c (cO d 0))):aZ af w K n 201 [.ref c,.bytes d] (upd H c (.inst 267 [])) Q X:=by
 erw[R.ye.to rfl a,(n a)];have b:d.length<=1000000:=by exact dM e rfl
 erw[Zh,ZT,Zn,Zj rfl rfl,<-fH (λh=>absurd h (dc rfl)) (λ_=>?_),ZM,Zn,ZH,Zc rfl,ZG rfl,fe (by assumption),<-j7 (λh=>absurd h Mz) (λ_=>?_),bQ us rfl rfl,bQ us rfl rfl]
 repeat rw[bR]
 exact cR Ext.refl q
theorem cv(R:Rd af w K)(h:d.drop a=vr m++rest)(p:m<2^64)(i:d.length<=100000)(f:aB 2 n=true)(q:d.drop (a+(vr m).length)=rest->Q (.int (m:Int)) (upd G c (cO d (a+(vr m).length)))):aZ af w K n 215 [.ref c] (upd G c (cO d a)) Q X:=by
 erw[R.uk.to rfl f,(n f)];have q:=q (mG h);erw[dg (zw m),(x l e h1 h2)];have N:d.drop a=x::(l++rest):=by refine' aj h ?_;refine' aj e ?_;rfl
 have g:=wA N;have b:d.length<=1000000:=by exact dM i rfl
 have k:d[((a:Nat):Int).toNat]?=some x:=by rw[aM];exact wL N
 erw[aO us rfl rfl,Zh,ZR,Zn,ZH,Zc rfl,ZN,Za,Zl rfl,aO us rfl rfl,Zb,fe (by assumption),<-fH (λ_=>?_) (λh=>absurd h (NN g)),Zp,Zn,Zy rfl,Zo rfl,Zl rfl,aO us rfl rfl,mw b gV k,<-fH (λj=>?_) (λj=>?_)]
 ·have z:=A9 λq=>absurd (h2 q) (Rh j);erw[aD (h1 z),(u o)];subst u;subst o;erw[bQ us rfl rfl,Zt,Zo rfl,Zl rfl,aO us rfl rfl,mw b gV k,aj (xU (P6 z rfl))];rewrite[bR];rw[e] at q;exact bH Ext.refl q
 ·erw[Zi,Zi,Ze,Zd,Zaw,Zq,Za,Zl rfl,aO us rfl rfl,zN R h p i (lv f rfl),Rw rfl rfl,bQ us rfl rfl];rw[bR];exact bH Ext.refl q
theorem cl(R:Rd af w K)(h:d.drop a=tx b++rest)(g:b.length<=10000)(f:d.length<=100000)(e:aB 3 n=true)(q:d.drop (a+(tx b).length)=rest->Q (.bytes b) (upd G c (cO d (a+(tx b).length)))):aZ af w K n 236 [.ref c] (upd G c (cO d a)) Q X:=by
 erw[R.qt.to rfl e,(n e)];have q:=q (mG h);erw[aO us rfl rfl,aO us rfl rfl,xQ R h g f (lv e rfl),Rw rfl rfl,bQ us rfl rfl];rw[bR];exact bH Ext.refl q
theorem cf(R:Rd af w K)(h:d.drop a=[fb t]++rest)(g:d.length<=100000)(f:aB 0 n=true)(q:d.drop (a+1)=rest->Q (.bool t) (upd G c (cO d (a+1)))):aZ af w K n 250 [.ref c] (upd G c (cO d a)) Q X:=by
 erw[R.yz.to rfl f,(n f)];have q:=q (mG h);have e:=wA h;have b:d.length<=1000000:=by exact dM g rfl
 have i:d[((a:Nat):Int).toNat]?=some (fb t):=by rw[aM];exact wL h
 erw[aO us rfl rfl,aO us rfl rfl,Zb,fe (by assumption),<-oj (λh=>absurd h (NN e)) (λ_=>?_),aO us rfl rfl,aO us rfl rfl,mw b gV i,Zh,Zj rfl rfl,<-j7 (λh=>absurd h (by induction t using tW<;>decide)) (λ_=>?_),Sb,aO us rfl rfl,<-⟨_,_,rfl,rfl,?_⟩,Zw,bQ us rfl rfl,Zt,Zay rfl rfl];rw[bR]
 induction t using tW with
 |true=>exact cq (λ_=>bH Ext.refl q) (λh=>absurd rfl h)
 |false=>exact cq (λh=>absurd h (dc rfl)) (λ_=>bH Ext.refl q)
theorem cd(R:Rd af w K)(h:d.drop a=[])(f:d.length<=100000)(b:aB 0 n=true)(q:Q .none (upd G c (cO d a))):aZ af w K n 264 [.ref c] (upd G c (cO d a)) Q X:=by
 erw[R.yB.to rfl b,(n b)];have hl:d.length<=a:=by
  have:=congrArg cF h;rw[eD,Bx] at this;exact aw.mp (Al [(cN,yp dX fY),(vH,cN),(dX,yn 0)] (vH,fY) rt (aG (bh _ _)) (aw.mpr (iZ qQ)) (aG (congrArg gX this)))
 have e:d.length<=1000000:=by exact dM f rfl
 erw[aO us rfl rfl,aO us rfl rfl,Zb,fe (by assumption),<-fH (λh=>absurd h (Lc hl)) (λ_=>?_),<-cR Ext.refl q]
theorem X6(R:Rd af w K)(h:d.drop a=rest)(e:a<=d.length)(g:d.length<=100000)(b:aB 0 n=true)(q:Q (.int (rest.length:Int)) (upd G c (cO d a))):aZ af w K n 208 [.ref c] (upd G c (cO d a)) Q X:=by
 erw[R.yF.to rfl b,(n b)];have hl:rest.length=d.length-(a:Int):=by refine' c_ h ?_;refine' aj eD ?_;exact da (jY [(cN,.sub dX fY)] (cN,.sub dX fY) rt (aG (cW (e)))) (jY [(.sub cN dX,fY)] (.sub cN dX,fY) rt (aG (ao (cW (e)))))
 have f:d.length<=1000000:=by exact dM g rfl
 rw[hl] at q;erw[aO us rfl rfl,Zb,fe (by assumption),aO us rfl rfl,<-bH Ext.refl q]
theorem Pz{d x y:List UInt8}(h:d.drop a=x++y)(n:1<=x.length):a+x.length<=d.length:=by
 have:=congrArg cF h;rw[eD,ah] at this;exact yj [(zp av (zp aX bT),gi)] (zp av aX,gi) rt (aa (Yf this (a_ n uX)))
theorem uw(R:Rd af w K)(h:d.drop a=vr m++rest)(g:m<=rest.length)(e:d.length<=100000)(b:aB 3 n=true)(q:d.drop (a+(vr m).length)=rest->Q (.int (m:Int)) (upd G c (cO d (a+(vr m).length)))):aZ af w K n 362 [.ref c] (upd G c (cO d a)) Q X:=by
 erw[R.AO.to rfl b,(n b)];have f:=Pz h (vf m);have hr:rest.length<=d.length:=by
  have:=congrArg cF h;rw[eD,ah] at this;exact yj [(zp av aX,bT),(bT,gi)] (aX,gi) rt (aa (ao this)) (i5 _ _)
 erw[bC us rfl,bt us rfl,cv R h (gP [(av,zn 100000),(aX,av),(bT,aX)] (zs bT,zn ((2^64))) rt e hr g) e (lv b rfl),(i),Zh,ZH,Zc rfl,Zm,Zc rfl,bC us rfl,bt us rfl,X6 R i f e (lv b rfl),<-j7 (λh=>absurd h (Lc g)) (λ_=>?_),<-bH Ext.refl (q i)]
theorem Ba(R:Rd af w K)(h:d.drop a=JU o++rest)(j:∀b,o=some b->b.length<=10000)(g:d.length<=100000)(f:aB 4 n=true)(q:d.drop (a+(JU o).length)=rest->Q (Sl o) (upd G c (cO d (a+(JU o).length)))):aZ af w K n 645 [.ref c] (upd G c (cO d a)) Q X:=by
 erw[R.zR.to rfl f,(n f)];have q:=q (mG h)
 induction o using tU with
 |none=>
  erw[bC us rfl,bt us rfl,cf R h g (lv f rfl),(i),<-bH Ext.refl q]
 |some b=>
  have h1:d.drop a=[fb true]++(tx b++rest):=by refine' aj h ?_;unfold JU;rw[aC]
  erw[bC us rfl,bt us rfl,cf R h1 g (lv f rfl),(i)];unfold cO;erw[bC us rfl,bt us rfl,cl R i (j b rfl) g (lv f rfl),(h2)];have e:a+(JU (some b)).length=a+1+(tx b).length:=by unfold JU;refine' aj ah ?_;refine' aj aW ?_;rw[q8]
  rw[e] at q;exact bH Ext.refl q
theorem lR(R:Rd af w K){e:En}(I:e.In)(s:e.d.length<=200)(f:aB 4 n=true)(q:(e.k=0\/e.k=2)->∀c,H c=none->Q (.ref c) (upd H c e.o))(x:¬(e.k=0\/e.k=2)->X 56 H):aZ af w K n 425 [.bytes e.oct] H Q X:=by
 erw[R.wQ.to rfl f,(n f)];have g:e.oct.length<=100000:=aF (En.gI s I) (dc rfl);have O:=lP I.k;erw[cA ⟨eO I.t,eO I.i,eO I.k⟩,(N L M),ay N,(t y E),ay L,(i z G),ay M,(k ek F)];have h0:e.oct.drop 0=vr t++(vr i++(vr k++(tx e.d++[]))):=by
  unfold En.oct;erw[aj y,aj z,aj ek];rewrite[gN,gN,gN];erw[aj fS];rewrite[bb];simp only[aC]
 generalize e.oct=d at h0 g;erw[Zg,ZQ,ZF rfl,(c u)];have J:∀a,Ext H (upd H c (cO d a)):=λa=>Ext.fresh Ext.refl u;refine Qe R g (lv f rfl) ⟨rfl,?_⟩;have C:∀a,(upd H c (cO d a)) c=some (.inst 267 [(3,.bytes d),(5,.int a)]):=λa=>us;erw[<-fy (C _) ⟨rfl,?_⟩,bt (C _) rfl,cv R h0 E g (lv f rfl),(h1),<-fy (C _) ⟨rfl,?_⟩,bt (C _) rfl,cv R h1 G g (lv f rfl),(h2),<-fy (C _) ⟨rfl,?_⟩,bt (C _) rfl,cv R h2 F g (lv f rfl),(h3),c_ ek];have r:(e.k=0\/e.k=2)->∀ρ:Loc,ρ 1=some (.ref c)->ρ 2=some (.int t)->ρ 3=some (.int i)->ρ 4=some (.int e.k)->
   bN af w K aH n [.bq 5 (.bp bA 5 []),.expr (.bp bA 7 []),dj (.call (.cls 407 376) [dC,dQ,fG,fJ])] ρ (upd H c (cO d (0+(vr t).length+(vr i).length+(vr k).length))) (dF Q) (cG X):=λj ρ p D B A=>by
  erw[Zg,Zm,<-Zc p ?_,<-fy (C _) ⟨rfl,?_⟩,bt (C _) rfl,cl R h3 (dM s rfl) g (lv f rfl),(h4),Zk,Zm,<-Zc p ?_,<-fy (C _) ⟨rfl,?_⟩,bt (C _) rfl,cd R h4 g (lv f rfl),Zt,ZQ,<-Zaf D B A rfl ?_,(b v),aD (bo v),(l U),<-Cs R v (lv f rfl) ⟨rfl,?_⟩,aj (fB (aJ U)),c_ y,c_ z,<-bH (Ext.fresh Ext.refl ?_) (q j b l),<-(dr _ _ (aJ U)).trans u]
 erw[Zh,ZR,Zn,Zj rfl rfl,<-wF (λj=>?_) (λj=>?_)]
 ·erw[Z2,Zi,Ze,Zd];refine r (.inl j) _ ?_ ?_ ?_ ?_<;>rfl
 ·erw[Zp,Zn,Zj rfl rfl,<-wF (λm=>?_) (λm=>?_)]
  ·erw[Z2,Zi,Ze,Zd];refine r (.inr m) _ ?_ ?_ ?_ ?_<;>rfl
  ·erw[Zp,ZD,Zp,ZZ,vd rfl,tx1 ‹_›,vB,<-xf (J _) (x λh=>h.elim j m)]
end
section
variable{G:Hp}
section
variable{d rest:List UInt8}{a i:Nat}{c:Addr}
theorem uO:(upd G c (cO d a)) c=some (.inst 267 [(3,.bytes d),(5,.int (a:Int))]):=us
theorem Af(R:Rd af w K)(hr:ρ i=some (.ref c))(h:d.drop a=vr m++rest)(f:m<2^64)(b:d.length<=100000)(e:aB 2 n=true)(q:d.drop (a+(vr m).length)=rest->Q (.int (m:Int)) (upd G c (cO d (a+(vr m).length)))):dm af w K aH n (.bp (.loc i) 4 []) ρ (upd G c (cO d a)) Q X:=
 Zm (Zc hr (fy uO ⟨rfl,Zb (bt uO rfl (cv R h f b e q))⟩))
theorem FL(R:Rd af w K)(hr:ρ i=some (.ref c))(h:d.drop a=tx b++rest)(g:b.length<=10000)(e:d.length<=100000)(f:aB 3 n=true)(q:d.drop (a+(tx b).length)=rest->Q (.bytes b) (upd G c (cO d (a+(tx b).length)))):dm af w K aH n (.bp (.loc i) 5 []) ρ (upd G c (cO d a)) Q X:=
 Zm (Zc hr (fy uO ⟨rfl,Zb (bt uO rfl (cl R h g e f q))⟩))
theorem Xt(R:Rd af w K)(hr:ρ i=some (.ref c))(h:d.drop a=[fb t]++rest)(b:d.length<=100000)(e:aB 0 n=true)(q:d.drop (a+1)=rest->Q (.bool t) (upd G c (cO d (a+1)))):dm af w K aH n (.bp (.loc i) 6 []) ρ (upd G c (cO d a)) Q X:=
 Zm (Zc hr (fy uO ⟨rfl,Zb (bt uO rfl (cf R h b e q))⟩))
theorem OZ(R:Rd af w K)(hr:ρ i=some (.ref c))(h:d.drop a=[])(b:d.length<=100000)(e:aB 0 n=true)(q:Q .none (upd G c (cO d a))):dm af w K aH n (.bp (.loc i) 7 []) ρ (upd G c (cO d a)) Q X:=
 Zm (Zc hr (fy uO ⟨rfl,Zb (bt uO rfl (cd R h b e q))⟩))
theorem Il(R:Rd af w K)(hr:ρ i=some (.bytes d))(h:d.length<=100000)(a:aB 0 n=true)(q:∀c,H c=none->Q (.ref c) (upd H c (cO d 0))):dm af w K aH n (.call (.cls 267 201) [.loc i]) ρ H Q X:=
 ZQ (Za (Zc hr (Zb λc b=>Qe R h a ⟨rfl,q c b⟩)))
end
theorem DI:∀l:List Int,l.length<=((l.map vi).flatten).length
 |[]=>qQ
 |i::l=>by
  erw[aj du,aj fC,aj ah,aj aV];have a:=DI l;have w:=vf i.toNat;unfold vi at*;exact gP [(zn 1,av),(aX,bT)] (zs aX,zp av bT) rt w a
theorem EA(R:Rd af w K)(I:xh ids)(h:d.drop a=mu ids++rest)(B:d.length<=100000)(i:aB 4 n=true)(q:d.drop (a+(mu ids).length)=rest->∀o,G o=none->o≠c->Q (.ref o) (upd (upd G o (.list (iv ids))) c (cO d (a+(mu ids).length)))):aZ af w K n 481 [.ref c] (upd G c (cO d a)) Q X:=by
 erw[R.EH.to rfl i,(n i)];have q:=q (mG h);have h0:d.drop a=vr ids.length++((ids.map vi).flatten++rest):=by refine' aj h ?_;unfold mu;rw[aC]
 have z:=I.len;erw[Zg,eR rfl,Zb,(o O),aD (bo O),(F k),oH,Zz rfl,aj (fB (aJ k)),uw R h0 (by erw[aj ah];have:=DI ids;exact Vw this) B (lv i rfl),(h1),ie];refine uA (dM z rfl) (λr ρ x=>∃done t p,done++t=ids/\r.length=t.length/\d.drop p=(t.map vi).flatten++rest/\p=a+(vr ids.length).length+((done.map vi).flatten).length/\ρ 0=some (.ref c)/\ρ 1=some (.ref o)/\x=upd (upd G o (.list (iv done))) c (cO d p))
  ?_ (λρ x=>(vk · λdone t p e1 e2 e3 e4 e5 e6 e7=>?_)) λv r ρ x M=>(vk · λdone t p e1 e2 e3 e4 e5 e6 e7=>?_)
 ·exact⟨[],ids,_,rfl,by unfold nC;rewrite[aq];erw[aj d8];rfl,h1,rfl,rfl,rfl,rfl⟩
 ·have:t=[]:=by
   induction t using lcs with
   |nil=>rfl
   |cons=>injection e2
  subst this;rw[bb] at e1;subst e1;subst e7;erw[<-ZO e6 ?_];have e:a+(mu done).length=p:=by refine' aj e4 ?_;unfold mu;refine' aj ah ?_;rw[q8]
  rw[e] at q;exact bH Ext.refl (q o F k)
 ·induction t using lcs with
  |nil=>injection e2
  |cons j t=>
   subst e7;have J:=I.Hx j (by erw[c_ e1];simp);erw[ay (eO J),(m T L)];subst T;have l:d.drop p=vr m++((t.map vi).flatten++rest):=by refine' aj e3 ?_;refine' aj du ?_;refine' aj fC ?_;rw[gN,aC]
   have C:=congrArg cF e1;rw[ah,aV] at C;have u:(iv done).length<=100000:=by unfold iv;rw[aq];exact zwc C z rfl
   erw[Zg,Af R e5 l L B (lv i rfl),(h2)];have D:∀y,(upd (upd G o (.list (iv done))) c y) o=some (.list (iv done)):=λy=>ae k us;have g:∀f:Loc,f 0=some (.ref c)->f 1=some (.ref o)->f 3=some (.int m)->bN af w K aH n [.expr (.bp bA 0 [dQ])] f (upd (upd G o (.list (iv done))) c (cO d (p+(vr m).length))) (B8 (λv ρ H Q=>bN af w K aH n [.bq 3 (.bp aN 4 []),.dp (.and [bA,(.cmp .LtE dQ (.sub bA (ek (-1))))]) [.bad] [],.expr (.bp bA 0 [dQ])] (upd ρ 2 v) H Q (cG X)) (λ_=>True) r (ic af w K n [dj bA] (dF Q) (cG X))) (cG X):=λf S E P=>by
    erw[Zk,Zm,<-Zc E ?_,<-o7 (D _) ⟨rfl,?_⟩,<-ZF P ?_,qV (D _) u,aj (fB (aJ k))];rewrite[bR];erw[<-⟨trivial,M _ _ ⟨done++[(m:Int)],t,p+(vr m).length,by erw[c_ e1];rewrite[aC];rfl,by simpa using e2,h2,?_,S,E,by unfold iv;erw[aj aY];rfl⟩⟩,aj e4,aj aY,aj jt,aj ah];simp only[du,tu,fC,rB,bb,gN];exact VD
   erw[Zh,ZR,Zn,<-Zag e6 ?_,FJ (D _) u];cases b:done.reverse with
   |nil=>
    obtain rfl:done=[]:=by simpa using b
    erw[Z2,Zi,Ze,Zd,<-g _ e5 e6 rfl]
   |cons y A=>
    have e:done=A.reverse++[y]:=by
     have:=congrArg List.reverse b
     simpa using this
    subst e;have N:(!(iv (A.reverse++[y])).isEmpty)=true:=by unfold iv;simp
    erw[aj N,Zao,Zn,ZH,<-Zc rfl ?_,Zo rfl,<-Zc e6 ?_,<-ax (v:=.int y) (D _) u ?_ ?_]
    ·unfold iv;erw[aj aY,<-Ip]
    refine DS (λq=>?_) (λ_=>?_)
    ·exfalso;have s:=I.up;rw[<-e1] at s;have:=(mD.mp s).2.2 y (by simp) m (by simp);exact Vi [(ys cN,dX),(dX,cN)] rt this q
    ·erw[Z2,Zi,Ze,Zd,<-g _ e5 e6 rfl]
end
section
variable{G:Hp}
theorem Ho(R:Rd af w K)(hr:ρ i=some (.ref c))(I:xh ids)(h:d.drop a=mu ids++rest)(b:d.length<=100000)(e:aB 4 n=true)(q:d.drop (a+(mu ids).length)=rest->∀o,G o=none->o≠c->Q (.ref o) (upd (upd G o (.list (iv ids))) c (cO d (a+(mu ids).length)))):dm af w K aH n (bD 481 [.loc i]) ρ (upd G c (cO d a)) Q X:=
 Zq (Za (Zc hr (Zb (EA R I h b e q))))
theorem zM(R:Rd af w K)(I:xh ids)(e:(jv ids u).length<=100000)(a:aB 5 n=true)(q:∀g A,Ext H g->U0 H A->Oa g A ids u->Q (.ref A.c) g):aZ af w K n 495 [.bytes (jv ids u)] H Q X:=by
 erw[R.yx.to rfl a,(n a)];have h0:(jv ids u).drop 0=mu ids++(mu []++(mu []++(mu []++([fb u]++[])))):=by
  unfold jv;erw[aj fS];rewrite[bb];simp only[aC]
 generalize jv ids u=d at h0 e;erw[Zg,Il R rfl e (lv a rfl),(c M),Zg,Ho R rfl I h0 e (lv a rfl),(h1 o1 W L),Zg,Ho R rfl xh.nil h1 e (lv a rfl),(h2 D V J),aD (bo V),(S r),Zg,Ho R rfl xh.nil h2 e (lv a rfl),(h3 C U G),aD (bo U),(t k),aD (bo t),(P p),Zg,Ho R rfl xh.nil h3 e (lv a rfl),(h4 B T F),aD (bo T),(s i),aD (bo s),(z j),aD (bo z),(O m),Zg,Xt R rfl h4 e (lv a rfl),(h5),Zk,OZ R rfl h5 e (lv a rfl)];generalize f:upd (upd (upd (upd H o1 (.list (iv ids))) D (.list (iv []))) C (.list (iv []))) B (.list (iv []))=G';have E:∀y,Ext H (upd G' c y):=λy=>by
  erw[c_ f,<-Ext.fresh (Ext.fresh (Ext.fresh (Ext.fresh (Ext.fresh Ext.refl W) S) P) O) M]
 have l4:∀y,(upd G' c y) B=some (.list (iv [])):=λy=>by refine' c_ f ?_;exact ae F us
 have l3:∀y,(upd G' c y) C=some (.list (iv [])):=λy=>by refine' c_ f ?_;exact ae G (ae (aJ i) us)
 have l2:∀y,(upd G' c y) D=some (.list (iv [])):=λy=>by refine' c_ f ?_;exact ae J (ae (aJ j) (ae (aJ k) us))
 have l1:∀y,(upd G' c y) o1=some (.list (iv ids)):=λy=>by refine' c_ f ?_;exact ae L (ae (aJ m) (ae (aJ p) (ae (aJ r) us)))
 erw[Zt,ZQ,Zr rfl,Zaf rfl rfl rfl rfl,(b N),qg R I N (l1 _) (l2 _) (l3 _) (l4 _) (lv a rfl),(g A e1 e2 e3 e4)];subst e1;have up:∀{x y},(upd G' c y) x=none->H x=none:=λ{x y} h=>aI (E y) h;exact⟨rfl,bH Ext.refl (q g A ((E _).trans e2) ⟨up e3.c,up e3.v,up e3.l,up e3.o,up e3.n⟩ e4)⟩
theorem AP(R:Rd af w K)(I:s.Ok)(g:s.oct.length<=2000)(j:aB 6 n=true)(q:∀E a A,Ext H E->X2 H a A->Br E a A s->Q (.ref a) E):aZ af w K n 551 [.bytes s.oct] H Q X:=by
 erw[R.qw.to rfl j,(n j),aD ⟨eO I.i,eO I.t⟩,(U P),ay U,(i L N),ay P,(t J M)];have r:(jv s.ids s.u).length<=10000:=by
  have:(jv s.ids s.u).length<=s.oct.length:=by unfold Sn.oct tx;simp only[ah];exact yj [] (bT,zp (zp av (zp aX bT)) gi) rt
  exact dM (aF this g) rfl
 have h0:s.oct.drop 0=vr i++(vr t++(tx (jv s.ids s.u)++(tx s.d++[]))):=by
  unfold Sn.oct;erw[aj L,aj J];rewrite[gN,gN];erw[aj fS];rewrite[bb];simp only[aC]
 have S:=I.d;have g:s.oct.length<=100000:=by exact dM g rfl
 generalize s.oct=d at h0 g;erw[Zg,Il R rfl g (lv j rfl),(c G),Zg,Af R rfl h0 N g (lv j rfl),(h1),Zg,Af R rfl h1 M g (lv j rfl),(h2),Zg,Zq,Za,FL R rfl h2 r g (lv j rfl),(h3),Zb,zM R I.ids (dM r rfl) (lv j rfl),(D A F f z)];have Y:=F _ _ us;have V:∀y,Ext H (upd H c y):=λy=>Ext.fresh Ext.refl G;have W:=(nB Y).symm;have T:A.c≠c:=λe=>by have:=f.c;rw[e,cX] at this;injection this
 erw[aj W,Zg,FL R rfl h3 (dM S rfl) g (lv j rfl),(h4),Zk,OZ R rfl h4 g (lv j rfl),Zt,ZQ,Zaf rfl rfl rfl rfl,(b C),aD (bo C),(B U3),<-qo R (lv j rfl) ⟨rfl,?_⟩];have e1:Ext H (upd D c (cO d (0+(vr i).length+(vr t).length+(tx (jv s.ids s.u)).length+(tx s.d).length))):=λx mo p=>ae (ne_sn p G) (F _ _ (V _ _ _ p));have k:∀{x y},D x=some y->x≠c->(upd (upd D c (cO d (0+(vr i).length+(vr t).length+(tx (jv s.ids s.u)).length+(tx s.d).length))) b (.inst 533 [(1,.int i),(0,.int t),(11,.ref A.c),(3,.bytes s.d)])) x=some y:=λ{x y} p rL=>ae (ne_sn p B) (ae rL p);have m:∀{x},(upd H c (cO d (0+(vr i).length+(vr t).length+(tx (jv s.ids s.u)).length))) x=none->x≠c:=λh=>(bo h).2;refine bH Ext.refl (q _ b A (Ext.fresh e1 (aI e1 C)) ⟨aI e1 C,aI (V _) f.c,aI (V _) f.v,aI (V _) f.l,aI (V _) f.o,aI (V _) f.n⟩ ⟨?_,k z.c (m f.c),k z.v (m f.v),k z.l (m f.l),k z.o (m f.o),k z.n (m f.n)⟩);rw[cX];unfold Sn.O;erw[aj L,aj J];rfl
theorem oh(R:Rd af w K){z:Cm}(B:z.AN)(I:z.In)(a:aB 5 n=true)(q:∀c,H c=none->Q (.ref c) (upd H c z.o)):aZ af w K n 652 [.bytes z.oct] H Q X:=by
 erw[R.s_.to rfl a,(n a)];have s:rG z.k:=⟨I.k0,by have:=I.k6;exact Th this⟩;erw[cA ⟨eO s,eO I.c,eO I.n⟩,(C x v),ay C,(k ek A),ay x,(F u D),ay v,(m t y)];have h0:z.oct.drop 0=vr k++(vr F++(vr m++(tx z.key++(tx z.val++(JU z.ex++[]))))):=by
  unfold Cm.oct;erw[aj ek,aj u,aj t];rewrite[gN,gN,gN];erw[aj fS];rewrite[bb];simp only[aC]
 have f:=B.key;have r:=B.val;have i:=B.ex;have l:=I.k6;have g:z.oct.length<=100000:=by
  have P:=eJ s;have O:=eJ I.c;have N:=eJ I.n;have M:=fR 9 _ (aK f (dc rfl));have L:=fR 9 _ (aK r (dc rfl));have J:(JU z.ex).length<=300:=by
   cases e:z.ex with
   |none=>decide
   |some b=>
    have j:=i b e;have G:=fR 9 _ (aK j (dc rfl));unfold JU tx;simp only[ah,aW];exact fp [(av,zn 10),(aX,zn 200)] (zp (zn 1) (zp av aX),zn 300) rt G j
  unfold Cm.oct tx;simp only[ah];exact bW (lq (zc8 _ _ _ _ _ _ _ _) [(av,zn 200),(aX,zn 200),(bT,zn 10),(gi,zn 10),(r_,zn 10),(ED,zn 10),(Vb,zn 10),(zx7,zn 300),(zs (zn 100000),zp (zp (zp (zp (zp bT gi) r_) (zp ED av)) (zp Vb aX)) zx7)] rt f r P O N M L J)
 generalize z.oct=d at h0 g;erw[Zae,Zg,Il R rfl g (lv a rfl),(c E),Zg,Af R rfl h0 A g (lv a rfl),(h1),Zg,Af R rfl h1 D g (lv a rfl),(h2),Zg,Af R rfl h2 y g (lv a rfl),(h3),Zg,FL R rfl h3 (dM f rfl) g (lv a rfl),(h4),Zg,FL R rfl h4 (dM r rfl) g (lv a rfl),(h5),Zg,Zz rfl,Ba R h5 (λb e=>by have:=i b e;exact dM this rfl) g (lv a rfl),(h6),Zk,OZ R rfl h6 g (lv a rfl),Ze,Zd,Zh,Zj rfl rfl,<-j7 (λh=>absurd h (λV=>Vi [(cN,dX),(dX,yn 6),(ys (yn 6),cN)] rt (aG (ao ek)) l V)) (λ_=>?_),Zi,Ze,Zd,Zt,ZQ,Zr rfl,Zr rfl,Zaf rfl rfl rfl rfl,(b j),aD (bo j),(p U),<-yy R (lv a rfl) ⟨rfl,?_⟩,aj (fB (aJ U))];have:=q b p;unfold Cm.o at this;rw[ek,u,t] at this;exact bH (Ext.fresh Ext.refl ((dr _ _ (aJ U)).trans E)) this
end
section
variable{G:Hp}
theorem dU.Ms(h:H m=some (.inst 578 fs))(k:dU H es xs):dU (upd H m z) es xs:=k.set h λx q=>by cases q
section
variable{d rest:List UInt8}{a i:Nat}{c:Addr}
theorem W0(R:Rd af w K){Q:Bool->Hp->Prop}(hr:ρ i=some (.ref c))(h:d.drop a=[fb t]++rest)(b:d.length<=100000)(e:aB 0 n=true)(q:d.drop (a+1)=rest->Q t (upd G c (cO d (a+1)))):tG af w K aH n (.bp (.loc i) 6 []) ρ (upd G c (cO d a)) Q X:=
 Zav (Zc hr (fy uO ⟨rfl,Zb (bt uO rfl (cf R h b e q))⟩))
theorem Ig(n:c≠m)(h:aB k 27=true)(hl:dO fs.length 100=true)(q:P (upd (upd G m (.inst 578 (xD fs k v))) c y)):kX (.ref m) k v (upd (upd G m (.inst 578 fs)) c y) P:=by
 erw[bQ (ae (aJ n) us) h hl,aj (fB n)];rewrite[bR];exact q
theorem OW(R:Rd af w K)(h1:ρ 1=some (.ref c))(h5:ρ 5=some (.ref ma))(b:c≠ma)(h:d.drop a=vr m++rest)(g:m<2^64)(e:d.length<=100000)(f:aB 2 n=true)(i:aB k 27=true)(hl:dO fs.length 100=true)(q:d.drop (a+(vr m).length)=rest->bN af w K aH n ms ρ (upd (upd G ma (.inst 578 (xD fs k (.int (m:Int))))) c (cO d (a+(vr m).length))) F X):bN af w K aH n (.cD fJ k (.bp bA 4 [])::ms) ρ (upd (upd G ma (.inst 578 fs)) c (cO d a)) F X:=
 Zu (Af R h1 h g e f λj=>Zc h5 (Ig b i hl (q j)))
end
noncomputable def del(H:Hp)(c:Addr):Hp:=λa=>if a=c then none else H a
theorem Sw:del H c c=none:=if_pos rfl
theorem jK(n:a≠c)(h:H a=some x):del H c a=some x:=(if_neg n).trans h
theorem P7:upd (del H c) c y=upd H c y:=funext λb=>by
 unfold upd del
 by_cases e:b=c
 ·erw[aj (if_pos e),aj (if_pos e)];rfl
 ·erw[aj (if_neg e),aj (if_neg e),aj (if_neg e)];rfl
theorem dU.del{H:Hp}{c:Addr}:∀{es:List Addr} {xs:List En},(∀e∈es,e≠c)->dU H es xs->dU (del H c) es xs
 |[],[],_,_=>trivial
 |_::_,_::_,n,h=>⟨jK (n _ kf) h.1,dU.del (λe a=>n e (fV a)) h.2⟩
 |[],_::_,_,h=>h.elim
 |_::_,[],_,h=>h.elim
theorem dU.off{H:Hp}:∀{es:List Addr} {xs:List En},(∀e∈es,e≠c)->dU H es xs->dU (upd H c y) es xs
 |[],[],_,_=>trivial
 |_::_,_::_,n,h=>⟨ae (n _ kf) h.1,dU.off (λe a=>n e (fV a)) h.2⟩
 |[],_::_,_,h=>h.elim
 |_::_,[],_,h=>h.elim
theorem DL:∀xs:List En,xs.length<=((xs.map λx=>tx x.oct).flatten).length
 |[]=>qQ
 |x::l=>by
  erw[aj ah];have a:=DL l;have w:=vf x.oct.length;erw[aj ah,<-yj [(zn 1,av),(aX,bT)] (zs aX,zp (zp av gi) bT) rt w a]
def jJ(x:En):Prop:=x.k=0\/x.k=2
theorem ow(R:Rd af w K)(B:Cp h xs sn cj)(I:EW h xs)(zx:h 0<=20)(Lk:∀s,sn=some s->s.oct.length<=2000)(b:(xB h xs sn rej cj).length<=100000)(a:aB 7 n=true)(q:(∀x∈xs,jJ x)->∀k m' JW pS M,Ext H k->OP H m' JW pS->k m'=some (dE h JW M rej cj)->k JW=some (.list (aT pS))->dU k pS xs->A2 H k JW M sn->m'≠JW->Q (.ref m') k)(x:¬(∀x∈xs,jJ x)->X 56 H):aZ af w K n 596 [.bytes (xB h xs sn rej cj)] H Q X:=by
 erw[R.rQ.to rfl a,(n a),ay (eO (I.hi 0 (dc rfl))),(k0 e0 l0),ay (eO (I.hi 1 (dc rfl))),(k1 e1 l1),ay (eO (I.hi 2 (dc rfl))),(k2 e2 l2),ay (eO (I.hi 3 (dc rfl))),(k3 e3 l3),ay (eO (I.hi 4 (dc rfl))),(k4 e4 l4),ay (eO (I.hi 5 (dc rfl))),(k5 e5 l5),ay (eO (I.hi 6 (dc rfl))),(k6 e6 l6),ay (eO (I.hi 7 (dc rfl))),(k7 e7 l7)];have h0:(xB h xs sn rej cj).drop 0=vr k0++(vr k1++(vr k2++(vr k3++(vr k4++(vr k5++(vr k6++(vr k7++([fb rej]++(vr xs.length++((xs.map λx=>tx x.oct).flatten++(y8 sn++(tx cj++[])))))))))))):=by
  unfold xB;erw[aj e0,aj e1,aj e2,aj e3,aj e4,aj e5,aj e6,aj e7,aj fS];rewrite[bb];simp only[gN,aC]
 have d5:=B.len;generalize xB h xs sn rej cj=d at h0 b;erw[Zg,Il R rfl b (lv a rfl),(c hc),Zg,Af R rfl h0 l0 b (lv a rfl),(a0),Zh,Zj rfl rfl,<-j7 (λh=>absurd h (λWn=>Vi [(cN,dX),(dX,yn 20),(ys (yn 20),cN)] rt (aG (ao e0)) zx Wn)) (λ_=>?_),Zi,Ze,Zd,Zg,Af R rfl a0 l1 b (lv a rfl),(a1),Zg,Af R rfl a1 l2 b (lv a rfl),(a2),Zg,ZQ,Zr rfl,Zr rfl,Zr rfl,Za,Zm,Af R rfl a2 l3 b (lv a rfl),(a3),Zb,(m hm),aD (bo hm),(t hmc),<-nY R hm (lv a rfl) λg Pk Tq=>⟨rfl,?_⟩,aD (bo Pk),(Rr J)];have E:=aJ hmc;erw[aj (fB (aJ J)),aj (fB E)];unfold dE;erw[OW R rfl rfl E a3 l4 b (lv a rfl) rfl rfl,(a4),OW R rfl rfl E a4 l5 b (lv a rfl) rfl rfl,(a5),OW R rfl rfl E a5 l6 b (lv a rfl) rfl rfl,(a6),OW R rfl rfl E a6 l7 b (lv a rfl) rfl rfl,(a7),Zu,Xt R rfl a7 b (lv a rfl),(a8),Zc rfl,Ig E rfl rfl];have a8':=a8;erw[oH,Zq,ZF rfl,uw R a8 (by erw[aj ah];have:=DL xs;exact Vw this) b (lv a rfl),(a9),ie];generalize hO:(MO.inst 578 _)=O1;have g0:Ext H (upd (upd H g (.list [])) m O1):=Ext.fresh (Ext.fresh Ext.refl Rr) t;refine uA (dM d5 rfl) (λr ρ k=>∃N i ZF p G,k=upd G c (cO d p)/\G g=some (.list (aT ZF))/\G m=some O1/\dU G ZF N/\N++i=xs/\d.drop p=(i.map λx=>tx x.oct).flatten++(y8 sn++(tx cj++[]))/\Ext H G/\(∀e∈ZF,H e=none/\e≠c)/\ZF.Nodup/\(∀x∈N,jJ x)/\r.length=i.length/\ρ 1=some (.ref c)/\ρ 5=some (.ref m)/\G c=none)
  ?_ (λρ k=>(HZ · λN i ZF p G b1 O b3 b4 b5 b6 Y b8 b9 b10 D P U1 b14=>?_)) λv r ρ k ih=>(HZ · λN i ZF p G b1 O b3 b4 b5 b6 Y b8 b9 b10 D P U1 b14=>?_)
 ·exact⟨[],xs,[],_,_,rfl,ae (aJ Tq) us,us,trivial,rfl,a9,g0,(λ_ h=>nomatch h),pa,(λ_ h=>nomatch h),by unfold nC;rewrite[aq];erw[aj d8];rfl,rfl,rfl,(dr _ _ E).trans ((dr _ _ (aJ J)).trans hc)⟩
 ·have:i=[]:=by
   induction i using lcs with
   |nil=>rfl
   |cons=>injection D
  replace this:=this.symm;subst this;rw[bb] at b5;subst b5;subst b1;rw[tu,rB,jE] at b6;have eG:=(nB b3).symm;have fin:∀F p2 M O2,F c=none->O2=dE (λj=>if j<8 then h j else 0) g M rej []->d.drop p2=tx cj++[]->Ext H F->F g=some (.list (aT ZF))->dU F ZF N->A2 H F g M sn->F m=some O2->
    bN af w K aH n [.cD fJ 20 (.bp bA 5 []),.expr (.bp bA 7 []),dj fJ] ρ (upd F c (cO d p2)) (dF Q) (cG X):=λF p2 M O2 c0 c1 c2 c3 c4 c5 c6 c7=>by
   have eG2:=(nB c7).symm;have cb:=B.cb;erw[aj eG2,aj c1];unfold dE;erw[Zu,FL R P c2 (dM cb rfl) b (lv a rfl),(c8),<-Zc U1 ?_,Ig E rfl rfl,Zk,OZ R P c8 b (lv a rfl),<-ZO U1 ?_];rw[c1] at c7;unfold dE at c7;erw[<-⟨_,Ext.fresh Ext.refl ?_,q b10 (upd F m (dE h g M rej cj)) m g ZF M (Ext.fresh c3 t) ⟨t,Rr,λe U=>(b8 e U).1,b9⟩ us (ae (aJ Tq) c4) (c5.Ms c7) (c6.set c7) Tq⟩,<-(dr _ _ E).trans c0]
  have V:O1=dE (λj=>if j<8 then h j else 0) g .none rej []:=by
   erw[c_ hO,c_ e4,c_ e5,c_ e6,c_ e7,c_ e0,c_ e1,c_ e2,c_ e3];rfl
  erw[Zh]
  induction sn using tU with
  |none=>
   erw[W0 R P b6 b (lv a rfl),(b15),Zi,Ze,Zd,<-fin G _ .none O1 b14 V b15 Y O b4 .none b3]
  |some s=>
   have b6':d.drop p=[fb true]++(tx s.oct++(tx cj++[])):=by refine' aj b6 ?_;unfold y8;rw[aC]
   have DM:=Lk s rfl;erw[W0 R P b6' b (lv a rfl),(b15),FL R P b15 (dM DM rfl) b (lv a rfl),(b16),Zb,AP R (B.sb s rfl) DM (lv a rfl),(H3 sa A x3 f s3)];have Cx:=x3 _ _ us;have XX:=x3 _ _ (ae (aJ E) b3);have RM:Ext H (upd G c (cO d (p+1+(tx s.oct).length))):=λy mo hy=>ae (ne_sn hy hc) (Y _ _ hy);have eH3:H3=upd (upd (del H3 c) m O1) c (cO d (p+1+(tx s.oct).length)):=by
    erw[aj (nB (jK (aJ E) XX)),aj P7,aj (nB Cx)];rfl
   erw[<-Zc U1 ?_,aj eH3,aj V];unfold dE;erw[Ig E rfl rfl,Ze,Zd];have nc:∀{y},(upd G c (cO d (p+1+(tx s.oct).length))) y=none->y≠c:=λh=>(bo h).2;have C:=jK (aJ E) XX;have W:=V;unfold dE at W;have sd:Br (del H3 c) sa A s:=⟨jK (nc f.o) s3.o,jK (nc f.co.c) s3.co.c,jK (nc f.co.v) s3.co.v,jK (nc f.co.l) s3.co.l,jK (nc f.co.o) s3.co.o,jK (nc f.co.n) s3.co.n⟩;refine fin _ _ (.ref sa) _ ((dr _ _ E).trans Sw) rfl b16 (λy mo hy=>ae (ne_sn hy t) (jK (ne_sn hy hc) (x3 _ _ (RM _ _ hy)))) (ae (aJ Tq) (jK J (x3 _ _ (ae J O)))) ?_ ?_ us
   ·rw[W] at C;exact((b4.off (λe U=>(b8 e U).2)).ext x3).del (λe U=>(b8 e U).2) |>.Ms C
   ·rw[W] at C;exact .some ⟨aI RM f.o,aI RM f.co.c,aI RM f.co.v,aI RM f.co.l,aI RM f.co.o,aI RM f.co.n⟩ (sd.set C) (f.co.ne (ae J O))
 ·induction i using lcs with
  |nil=>injection D
  |cons L i=>
   subst b1;have S:L∈xs:=by refine' c_ b5 ?_;simp
   have hxB:=B.xb L S;have hxI:=I.xi L S;have hd:=congrArg cF b5;rw[ah,aV] at hd;have b6':d.drop p=tx L.oct++((i.map λx=>tx x.oct).flatten++(y8 sn++(tx cj++[]))):=by
    erw[aj b6,aj du,aj fC];rw[aC]
   have Se:(upd G c (cO d p)) m=some O1:=ae hmc b3;have Ki:(upd G c (cO d p)) g=some (.list (aT ZF)):=ae J O;rw[<-hO] at Se;erw[Zk,Zm,<-Zl U1 ?_,aO Se rfl rfl,wM Ki rfl,FL R P b6' (aF (En.gI hxB.d hxI) (dc rfl)) b (lv a rfl),(abw),Zb,<-lR R hxI hxB.d (lv a rfl) (λhk e U=>?_) (λhk=>xf (λy mo hy=>ae (ne_sn hy hc) (Y _ _ hy)) (x λh=>hk (h _ S))),aD (bo U),(rD T)];have Yi:(aT ZF).length<=100000:=by rewrite[bG];refine' aj b4.length ?_;exact zwc hd d5 rfl
   have WX:=ne_sn O rD;erw[Zb,qV (ae WX (ae J O)) Yi,Ze,<-⟨trivial,ih _ _ ⟨N++[L],i,ZF++[e],_,upd (upd G e L.o) g (.list (aT (ZF++[e]))),?_,us,ae Tq (ae (ne_sn b3 rD) b3),?_,by erw[c_ b5];rewrite[aC];rfl,abw,?_,λy hy=>?_,?_,λy hy=>?_,by simpa using D,P,U1,(dr _ _ (aJ J)).trans ((dr _ _ (aJ T)).trans b14)⟩⟩]
   ·erw[aj (fB (aJ T)),aj (fB (aJ J))];unfold aT;erw[aj aY];rfl
   ·have b4':dU (upd G e L.o) (ZF++[e]) (N++[L]):=dU.app (b4.ext (Ext.fresh Ext.refl rD)) ⟨us,trivial⟩;exact b4'.set (ae WX O) λy q=>by injection q
   ·erw[(y mo hy),<-ae (ne_sn hy Rr) (ae (ne_sn hy (aI Y rD)) (Y _ _ hy))]
   ·rcases cC.mp hy with hy|hy
    ·exact b8 y hy
    ·erw[aj (aR.mp hy),<-⟨aI Y rD,T⟩]
   ·refine iL.mpr ⟨b9,by simp,λy hy z hz' q=>?_⟩;rw[aR.mp hz'] at q;erw[ay (dU.mem b4 hy),(u _ hu)];rw[q,rD] at hu;injection hu
   ·rcases cC.mp hy with hy|hy
    ·exact b10 y hy
    ·erw[aj (aR.mp hy),<-hk]
end
section
variable{G:Hp}
def Y(y:Nat):Prop:=y<2^40
theorem Y.big(h:Y y):y<2^400:=a_ h (d3 (dc rfl) (dc rfl))
theorem Y.div(h:Y y)(k:Nat):Y (y / k):=aK (nQ _ _) h
theorem LQ{l:List Nat}(h:i<l.length):∃x∈l,(l.map λx:Nat=>V.int (x:Int))[i]?=some (.int (x:Int)):=
 ⟨l[i],fP h,by erw[aj (cP),aj (bx h)];rfl⟩
theorem tw(R:Rd af w K){i:Nat}(h:H a=some (.list (l.map λx:Nat=>V.int (x:Int))))(l0:l≠[])(c:l.length<=100)(j:∀x∈l,x<1000000)(f:i<=1000)(e:aB 0 n=true)(q:∀y:Nat,y<2^30->Q (.int (y:Int)) H):
  aZ af w K n 743 [.ref a,.int (i:Int)] H Q X:=by
 erw[R.K5.to rfl e,(n e)];have hl:=nR.mpr l0;have b:(l.map λx:Nat=>V.int (x:Int)).length=l.length:=aq _;erw[ay (LQ (fT i hl)),(x d k)];have d:=j x d;have g:i / l.length<=1000:=aF (nQ _ _) f;erw[Zt,ZC,Z5,Zc rfl,ZI rfl,ZG rfl,dW h (lM b c rfl),aj b,dI (d4.mpr hl),ax h (lM b c rfl) (fw k),ZI rfl,ZI rfl,ZG rfl,dW h (lM b c rfl),aj b,dT (d4.mpr hl) (Y.big (aK f (dc rfl))) (d4.mpr (dM c rfl)),<-⟨dv (dc rfl),dv (by rw[cT];exact aK g (dc rfl)),?_⟩,Zw];have:=q (x+1009*(i / l.length)) (fp [(zs av,zn 1000000),(zm 1009 aX,zm 1009 (zn 1000))] (zs (zp av (zm 1009 aX)),zn ((2^30))) rt d (aP 1009 g));rw[bh,Int.natCast_mul] at this;exact bH Ext.refl this
theorem Ao(e:Nat):(128:Int)^((e:Nat):Int).toNat=((128^e:Nat):Int):=by rw[aM];simp
theorem jf(R:Rd af w K)(b:Y y)(a:aB 0 n=true)(q:∀v:Nat,v<2^64->Q (.int (v:Int)) H):aZ af w K n 750 [.int (y:Int)] H Q X:=by
 erw[R.Nb.to rfl a,(n a)];have c:y%11<11:=kv;have h2:y / 11%2<2:=kv;erw[Zh,Zy rfl,Zs rfl rfl,dI rfl,<-cq (λ_=>?_) (λr=>?_)]
 ·erw[Zp,ZO rfl,Z8,<-bH Ext.refl (q 18446744073709551615 (dc rfl))]
 ·have h:y%11<=9:=by exact(pf r).elim (λT=>aw.mp (oZ [(ys cN,yn 10)] (cN,yn 9) rt T)) (λT=>bW (λ_=>U5 [(ys cN,yn 11),(ys (yn 10),cN)] rt (aU.mpr kv) T))
  erw[Zi,Ze,Zd,Zt,ZC,Zv rfl,ZI rfl,Zs rfl rfl,dI rfl,<-⟨gV,aw.mpr (dK [(zs av,zn 11)] (av,zn 1000) rt kv),by decide,?_⟩];rw[Ao];erw[Z3,Zv rfl,Zs rfl rfl,dT rfl b.big rfl,dI rfl,Zw];have p:128^(y%11)<=128^9:=d3 (dc rfl) h;have p0:1<=128^(y%11):=Nat.one_le_pow _ _ (dc rfl);have:=q (128^(y%11)-1+y / 11%2) (have this:(128:Nat)^9=9223372036854775808:=(dc rfl);by exact gP [(av,zn 9223372036854775808),(aX,av),(zs bT,zn 2)] (zs (zp aX bT),zn 18446744073709551616) rt p (i5 _ _) kv);rw[show(128^(y%11)-1+y / 11%2:Nat)=(128^(y%11):Nat)-1+((y / 11%2:Nat):Int) by exact da (Al [(cN,.sub dX (yn 1)),(fY,yp cN vH)] (fY,yp (.sub dX (yn 1)) vH) rt (aG (cW (p0))) (aG (bh _ _))) (Al [(.sub cN (yn 1),dX),(yp dX fY,vH)] (yp (.sub cN (yn 1)) fY,vH) rt (aG (ao (cW (p0)))) (aG (ao (bh _ _))))] at this;exact bH Ext.refl this
theorem xk(R:Rd af w K)(c:Y y)(b:aB 0 n=true)(q:∀v:Int,¬rG v->big v->Q (.int v) H):aZ af w K n 757 [.int (y:Int)] H Q X:=by
 erw[R.EZ.to rfl b,(n b)];have a:=c;erw[Zh,Zy rfl,Zs rfl rfl,dI rfl,<-cq (λ_=>?_) (λr=>?_)]
 ·erw[Zp,Zt,Zs rfl rfl,Zw,Z8,<-bH Ext.refl (q _ (λh=>by have:=h.2;exact cH [(zp (zn 18446744073709551616) av,zn 18446744073709551615)] rt (aw.mp this)) (dv (JR (Nat.add_lt_add_left a _) rfl)))]
 ·erw[Zi,Ze,Zd,Zt,Zs rfl rfl,Z3,<-bH Ext.refl (q _ (λh=>r (by have e:=Nat.le_zero.mp (aw.mp (Int.sub_nonneg.mp h.1));rw[e];rfl)) (dv (by rw[Int.zero_sub,Int.natAbs_neg];exact JR a rfl)))]
theorem mv(R:Rd af w K)(a:Y y)(h:aB 0 n=true)(q:∀b:List UInt8,b.length<=129->Q (.bytes b) H):aZ af w K n 764 [.int (y:Int)] H Q X:=by
 erw[R.K0.to rfl h,(n h)];have d:y / 256%8<8:=kv;have g:y%256<256:=kv;erw[Zt,Z9,Zv rfl,ZX,Za,eR rfl,Za,Zs rfl rfl,dI rfl,ZE rfl rfl,(c f),Zb,vx us rfl (λi hi=>?_) (aE rfl)]
 ·rcases bE.mp hi with rfl|hi
  ·exact⟨aw.mpr (dK [] (zn 0,av) rt),aU.mpr (dK [(zs av,zn 256)] (zs av,zn 256) rt kv)⟩
  ·rcases bE.mp hi with rfl|hi
   ·decide
   ·erw[aj (aR.mp hi)];decide
 erw[<-⟨List.cons_ne_nil _ _,by decide,by decide,by show 3<=1000;decide,?_⟩,ZW,Z7,Z5,i7 rfl,Zr rfl,Zr rfl,Zr rfl,Zr rfl,Zaf rfl rfl rfl rfl,Zv rfl,Zs rfl rfl,dT rfl a.big rfl,dI rfl];have e:∃k:Nat,k<=129/\([V.int 3,.int 0,.int 129,.int 1,.int 128,.int 2,.int 127,.int 5])[((y / 256%8:Nat):Int).toNat]?=some (.int k):=by
  rw[aM];refine Y0 d ?_ ?_ ?_ ?_ ?_ ?_ ?_ ?_
  ·exact⟨3,by decide,rfl⟩
  ·exact⟨0,by decide,rfl⟩
  ·exact⟨129,by decide,rfl⟩
  ·exact⟨1,by decide,rfl⟩
  ·exact⟨128,by decide,rfl⟩
  ·exact⟨2,by decide,rfl⟩
  ·exact⟨127,by decide,rfl⟩
  ·exact⟨5,by decide,rfl⟩
 erw[ay e,(k M j),NW (dc rfl) gV j,ie,<-K3 trivial ⟨Bm,aU.mpr (dK [(av,zn 129)] (zs av,zn ((2^60))) rt M)⟩ ?_ ?_]
 ·show(kP 44 (toBytes [(y%256:Nat),200,0])).flatten.length<=1000000;erw[aj List.length_flatten,aj List.map_replicate];show(kP 44 3).sum<=1000000
  decide
 ·refine bH (Ext.fresh Ext.refl f) (q _ ?_);unfold cut;dsimp only;erw[aj fS,aj dP];rewrite[aM];erw[aF (uc _ _),<-M]
end
section
variable{G:Hp}
noncomputable def HB(m g i:Nat):Nat:=m / 128^i%128+(if i+1<g then 128 else 0)
theorem Lp:∀(g m:Nat),m<128^(g+1)->(g=0\/128^g<=m)->((gw (g+1)).map λi=>cM (HB m (g+1) i))=vr m
 |0,m,h,_=>by
  have b:m<128:=by simpa using h
  erw[aj (qE b)];show[cM (m / 128^0%128+0)]=_;rewrite[Nat.pow_zero,Nat.div_one];erw[aj (A7 b)];rw[Nat.add_zero]
 |g+1,m,h,hg=>by
  have a:=hg.resolve_left Wb;have h1:=aF (by rw[kW];exact Nat.le_mul_of_pos_left _ (Nat.pow_pos (dc rfl))) a;erw[aj (zH h1),aj tp,aj du,aj eu]
  congr 1
  ·show cM (m / 128^0%128+(if 0+1<g+1+1 then 128 else 0))=_;rewrite[Nat.pow_zero,Nat.div_one];erw[aj (if_pos (dK [] (zs (zs (zn 0)),zs (zs av)) rt))];rfl
  ·have c:=Lp g (m / 128) (by rw[lW (dc rfl),<-kW];exact h) (by
    by_cases q:g=0
    ·exact .inl q
    ·exact .inr ((Nat.le_div_iff_mul_le (dc rfl)).mpr (by rw[<-kW];exact a)))
   erw[c_ c,dR,(i _)];show cM (m / 128^(i+1)%128+(if i+1+1<g+1+1 then 128 else 0))=cM (m / 128 / 128^i%128+(if i+1<g+1 then 128 else 0));rw[kW,tR,<-Nat.div_div_eq_div_mul]
   congr 2
   by_cases q:i+1<g+1
   ·erw[aj (if_pos q),aj (if_pos (fp [(zs av,aX)] (zs (zs av),zs aX) rt q))];rfl
   ·erw[aj (if_neg q),aj (if_neg (FQ [(av,aX),(zs (zs aX),zs av)] rt (bW q)))];rfl
theorem xW(f:Nat->Nat):∀l:List Nat,lh (l.map λi=>V.int ((f i:Nat):Int))=some (l.map λi=>((f i:Nat):Int))
 |[]=>rfl
 |i::l=>by
  show(lh (l.map _)).map (_:: ·)=_;erw[aj (xW f l)];rfl
theorem Fv(R:Rd af w K)(y:m<2^64)(x:aB 0 n=true)(q:Q (.bytes (vr m)) H):aZ af w K n 769 [.int (m:Int)] H Q X:=by
 erw[R.QN.to rfl x,(n x),Z1 rfl,CM,(P z)];have f:∀k g ρ,g+k=9->ρ 0=some (.int m)->ρ 1=some (.int (g+1:Nat))->(g=0\/128^g<=m)->P ρ H:=by
  intro k;have o:∀g ρ,g<=9->ρ 0=some (.int m)->ρ 1=some (.int (g+1:Nat))->(g=0\/128^g<=m)->m<128^(g+1)->
    bN af w K aH n [dj (.call .bytes [(.kg (.bin .Add (.bin .Mod (.bin .FloorDiv aN (.bin .Pow (ek 128) (.loc 1000))) (ek 128)) (.ite (.cmp .Lt (.bin .Add (.loc 1000) (ek 1)) bA) (ek 128) (ek 0))) bA)])] ρ H (dF Q) (cG X):=λg ρ a b r h1 h2=>by
   erw[Zt,ZX,Za,Zai,<-Zc r ?_,<-Jp (λv=>match v with| .int i=>.int (HB m (g+1) i.toNat:Nat)|_=>.none) (OV a rfl) (λi p F d=>?_) λc C=>?_]
   ·have t:i<=9:=by exact fp [(zs av,zs aX),(aX,zn 9)] (av,zn 9) rt p a
    have d:F (.int (HB m (g+1) i:Nat)) H:=by
     have:=d;dsimp only at this
     rwa [aM] at this
    erw[ZC,Zv rfl,<-ZI b ?_,Zs rfl rfl,<-⟨gV,aw.mpr (fp [(zs av,zs aX),(aX,zn 9)] (av,zn 1000) rt p a),by decide,?_⟩];rw[Ao];have B:0<128^i:=Nat.pow_pos (dc rfl);have s:128^i<=128^9:=d3 (dc rfl) t;erw[<-⟨dv (by rw[cT];exact b_ y (dc rfl)),dv (by rw[cT];exact aK s (dc rfl)),T7 B,?_⟩,aj (pe _ gV)];rewrite[<-Int.natCast_ediv];erw[dI rfl,Zak,<-Zy r ?_,Zs rfl rfl,Zw,<-fH (λh=>?_) (λh=>?_)]
    ·erw[Zp,ZA,Zw];have:HB m (g+1) i=m / 128^i%128+128:=by unfold HB;refine' aj (if_pos (fp [(zs (zs av),aX)] (zs (zs av),aX) rt (aU.mp h))) ?_;rfl
     rw[this] at d;exact d
    ·erw[Zi,ZA,Zw];have:HB m (g+1) i=m / 128^i%128+0:=by unfold HB;refine' aj (if_neg (λG=>FQ [(av,zs aX),(zs (zs aX),av)] rt (aw.mp h) G)) ?_;rfl
     rw[this] at d;exact d
   ·erw[Zb];have D:((gw (g+1)).map λi:Nat=>(match (V.int i) with| .int i=>V.int (HB m (g+1) i.toNat:Nat)|_=>V.none))=(gw (g+1)).map λi:Nat=>V.int (HB m (g+1) i:Nat):=
     dR λi _=>by dsimp only;rw[aM]
    refine vx (l:=(gw (g+1)).map λi:Nat=>((HB m (g+1) i:Nat):Int)) us ?_ (λi p=>?_) (by rewrite[aq];erw[aj d8,<-OV a rfl]) ?_
    ·erw[aj D,<-xW _ _]
    ·erw[ay (cK.mp p),(j _ E)];subst E;have:HB m (g+1) j<256:=by
      unfold HB;have:=fT (m / 128^j) (show 0<128 by decide)
      split
      ·exact J3 this 128
      ·exact b_ this (dc rfl)
     exact⟨aw.mpr (dK [] (zn 0,av) rt),aU.mpr (dK [(zs av,zn 256)] (zs av,zn 256) rt this)⟩
    ·have e:toBytes ((gw (g+1)).map λi:Nat=>(HB m (g+1) i:Nat))=vr m:=by
      unfold toBytes;erw[aj eu,c_ (Lp g m h2 h1)];exact dR λi _=>by
       show cM (((HB m (g+1) i:Nat):Int)).toNat=_;rw[aM]
     erw[aj e,<-bH (Ext.fresh Ext.refl C) q]
  induction k with
  |zero=>
   intro g ρ a b r h1;have u:g=9:=by exact aS (dK [(zk av 0,zn 9)] (av,zn 9) rt (aa a)) (dK [(zn 9,zk av 0)] (zn 9,av) rt (aa (ao a)))
   have h2:m<128^(g+1):=by refine' aj u ?_;exact a_ y (dc rfl)
   erw[z ρ H,ZH,<-Zc b ?_,ZI rfl,<-Zc r ?_,<-⟨gV,aw.mpr (dK [(zk av 0,zn 9)] (zs av,zn 1000) rt (aa a)),by decide,?_⟩];rw[Ao];erw[<-oj (λh=>absurd (aw.mp h) (tM.mpr h2)) (λ_=>?_),Zi,<-o g ρ (dK [(zk av 0,zn 9)] (av,zn 9) rt (aa a)) b r h1 h2]
  |succ k A=>
   erw[(g ρ a b r h1),z ρ H,ZH,<-Zc b ?_,ZI rfl,<-Zc r ?_,<-⟨gV,aw.mpr (fp [(zp av aX,zn 9)] (zs av,zn 1000) rt (aa a)),by decide,?_⟩];rw[Ao];refine oj (λh=>?_) (λh=>?_)
   ·erw[Zp,Zg,Zv rfl,<-Zc r ?_,Zw,Ze,<-CQ (A (g+1) _ (aS (fp [(zp av (zs aX),zn 9)] (zp (zs av) aX,zn 9) rt (aa a)) (fp [(zn 9,zp av (zs aX))] (zn 9,zp (zs av) aX) rt (aa (ao a)))) b ?_ (.inr (Tp h))),aj (show(g+1:Nat)+1=((g+1+1:Nat):Int) by exact PC)];rfl
   ·erw[Zi,<-o g ρ (fp [(zp av aX,zn 9)] (av,zn 9) rt (aa a)) b r h1 (zo7 h)]
 exact f 9 0 _ rfl rfl rfl (.inl rfl)
theorem Xc(h:rG i):∃k:Nat,i=k/\k<2^64/\vi i=vr k:=by
 erw[ay (eO h),(k e l),<-⟨k,e,l,by erw[aj e];rw[gN]⟩]
theorem jP(R:Rd af w K)(h:rG i)(a:aB 0 n=true)(q:Q (.bytes (vi i)) H):aZ af w K n 769 [.int i] H Q X:=by
 erw[cY (Xc h),(k e l b)];rw[b] at q;erw[aj e,<-Fv R l a q]
theorem jU(R:Rd af w K)(h:b.length<=50000)(a:aB 1 n=true)(q:Q (.bytes (tx b)) H):aZ af w K n 776 [.bytes b] H Q X:=by
 erw[R.KX.to rfl a,(n a)];have:=fR 9 _ (aK h (dc rfl));erw[Zt,Zv rfl,Zq,Za,ZG rfl,fe (dM h rfl),Zb,Fv R (aK h (dc rfl)) (lv a rfl),fM (Oq this h rfl),<-bH Ext.refl q]
theorem iC(R:Rd af w K){y:Nat}(g:rG old)(f:y<2^39)(h:aB 1 n=true)(q:∀v:Nat,v<2^64->Q (.int (v:Int)) H):aZ af w K n 783 [.int old,.int (y:Int)] H Q X:=by
 erw[R.Iw.to rfl h,(n h)];have c:Y y:=b_ f (dc rfl);have b:Y (y+2):=by exact dK [(zs av,zn 549755813888)] (zs (zk av 2),zn 1099511627776) rt f
 have d:=eJ g;erw[Zg,Zz rfl,jf R c (lv h rfl),(v a)];have e:=fR 9 _ (a_ a (dc rfl));erw[Zh,ZH,ZN,Za,Zz rfl,Fv R a (lv h rfl),Zb,fe (dM e rfl),ZN,Za,Zz rfl,jP R g (lv h rfl),Zb,fe (dM d rfl),<-cq (λ_=>?_) (λ_=>?_)]
 ·erw[Zp,Zg,Zq,Za,Zs rfl rfl,Zw,Zb,jf R b (lv h rfl),(v a),Ze,Zd,ZO rfl,<-bH Ext.refl (q v a)]
 ·erw[Zi,Ze,Zd,ZO rfl,<-bH Ext.refl (q v a)]
theorem i8(R:Rd af w K)(d:old.length<=200)(c:Y y)(a:aB 1 n=true)(q:∀b:List UInt8,b.length<=130->Q (.bytes b) H):aZ af w K n 790 [.bytes old,.int (y:Int)] H Q X:=by
 erw[R.wB.to rfl a,(n a),Zg,Zz rfl,mv R c (lv a rfl),(b h),Zh,ZH,ZG rfl,fe (dM h rfl),ZG rfl,fe (dM d rfl),<-cq (λ_=>?_) (λ_=>?_)]
 ·erw[Zp,Zg,Zs rfl rfl,fM (by exact OV h rfl),Ze,Zd,ZO rfl,<-bH Ext.refl (q _ (by erw[aj ah,<-OV h rfl]))]
 ·erw[Zi,Ze,Zd,ZO rfl,<-bH Ext.refl (q b (dM h rfl))]
theorem mH(R:Rd af w K){e:En}(h:H r=some (.list e.vs))(I:e.In)(c:e.d.length<=200)(a:aB 2 n=true)(q:Q (.bytes e.oct) H):aZ af w K n 797 [.ref r] H Q X:=by
 erw[R.Ht.to rfl a,(n a)];have f:=eJ I.t;have J:=eJ I.i;have b:=eJ I.k;have g:=En.gI c I;have h4:e.vs.length<=100000:=dc rfl;erw[Zt,ZC,ZC,ZC,Zq,Za,Zf rfl rfl,ax h h4 rfl,Zb,jP R I.t (lv a rfl),Zq,Za,Zf rfl rfl,ax h h4 rfl,Zb,jP R I.i (lv a rfl),fM (Oq f J rfl),Zq,Za,Zf rfl rfl,ax h h4 rfl,Zb,jP R I.k (lv a rfl),fM (aj ah (V4 f J b)),Zq,Za,Zf rfl rfl,ax h h4 rfl,Zb,jU R (dM c rfl) (lv a rfl)];have:(vi e.t++vi e.i++vi e.k++tx e.d).length<=300:=g;rw[ah] at this;erw[fM (dM this rfl),<-bH Ext.refl q]
end
section
variable{G:Hp}
section
variable{G:Bool->Prop}
theorem Ow(h:G true):jH .Eq (.bytes b) (.bytes b) H G:=by
 show G (b==b);rw[beq_self_eq_true];exact h
theorem Ma(h:G true):jH .Eq (.int b) (.int b) H G:=by
 show G (b==b);rw[beq_self_eq_true];exact h
theorem KI(p:plain 9 (.tup vs)=true)(h:G true):jH .Eq (.tup vs) (.tup vs) H G:=⟨rfl,p,h⟩
theorem Nh(h1:H a=some (.list vs))(h2:H b=some (.list vs))(p:vs.all (plain 9)=true)(h:G true):jH .Eq (.ref a) (.ref b) H G:=by
 exact gM h1 (gM h2 ⟨rfl,p,h⟩)
theorem pX(h:G false):jH .NotEq (.bytes b) (.bytes b) H G:=Ow h
theorem WA(h:G false):jH .NotEq (.int b) (.int b) H G:=Ma h
theorem Hm(p:plain 9 (.tup vs)=true)(h:G false):jH .NotEq (.tup vs) (.tup vs) H G:=⟨rfl,p,h⟩
theorem Ux(h1:H a=some (.list vs))(h2:H b=some (.list vs))(p:vs.all (plain 9)=true)(h:G false):jH .NotEq (.ref a) (.ref b) H G:=Nh h1 h2 p h
end
structure Pr(H:Hp)(p e r:Addr)(x:En):Prop where
 p:H p=some (.list [.ref e,.ref r])
 e:H e=some x.o
 r:H r=some (.list x.vs)
theorem Pr.ext{p e r:Addr}(h:Pr H p e r x)(k:Ext H H'):Pr H' p e r x:=⟨k _ _ h.p,k _ _ h.e,k _ _ h.r⟩
structure En.Good(x:En):Prop where
 b:x.AN
 i:x.In
theorem mM(R:Rd af w K)(h:Pr H p e r x)(g:x.Good)(c:aB 3 n=true)(q:Q (.bool true) H):aZ af w K n 818 [.ref p] H Q X:=by
 erw[R.B3.to rfl c,(n c)];have f:=h.p;have k:=h.e;have hr:=h.r;have j:=g.b.d;have l:=En.gI j g.i;have h2:([V.ref e,.ref r]).length<=100000:=dc rfl;have h4:x.vs.length<=100000:=dc rfl;have a:=k;unfold En.o at a;erw[Zt,ZY,Zad,Zm,Zf rfl rfl,ax f h2 rfl,bC a rfl,Zb,bt a rfl,<-kT R k g.b (lv c rfl) (λ_=>?_) (λz=>absurd g.i z),ZN,Za,Zq,Za,Zf rfl rfl,ax f h2 rfl,Zb,mH R hr g.i j (lv c rfl),Zb,fe (dM l rfl),Ma,Zx,Zp,Zad,Zm,Zf rfl rfl,ax f h2 rfl,bC a rfl,Zb,bt a rfl,x9 R k j (lv c rfl),ZN,Za,Zo rfl,Zf rfl rfl,ax f h2 rfl,ax hr h4 rfl,Zb,fe (dM j rfl),Ma,<-bH Ext.refl q]
theorem uZ(R:Rd af w K)(g:x.Good)(a:aB 5 n=true)(q:jJ x->Q (.tup x.vs) H)(f:¬jJ x->Q .none H):aZ af w K n 825 [.bytes x.oct] H Q X:=by
 erw[R.wI.to rfl a,(n a),ZV,Zt,Zm,Zz rfl,<-lR R g.i g.b.d (lv a rfl) (λe c j=>?_) (λe=>⟨rfl,λl=>bH Ext.refl (f e)⟩)];have h:(upd H c x.o) c=some (.inst 407 [(0,.int x.t),(1,.int x.i),(2,.int x.k),(3,.bytes x.d)]):=us;erw[<-fy h ⟨rfl,?_⟩,Zb,bt h rfl,jL R us (lv a rfl),<-bH (Ext.fresh Ext.refl j) (q e)]
theorem AU(x:En):plain 9 (.tup x.vs)=true:=rfl
theorem ot(R:Rd af w K)(h:Pr H p e r x)(g:x.Good)(a:aB 6 n=true)(q:Q (.bool true) H):aZ af w K n 832 [.ref p] H Q X:=by
 erw[R.KO.to rfl a,(n a)];have f:=h.p;have k:=h.e;have hr:=h.r;have m:=g.b.d;have h2:([V.ref e,.ref r]).length<=100000:=dc rfl;have h4:x.vs.length<=100000:=dc rfl;have s:x.vs.length<=1000:=dc rfl;have j:=k;unfold En.o at j;erw[Zg,Zq,Za,Zf rfl rfl,ax f h2 rfl,Zb,mH R hr g.i m (lv a rfl),Zh,ZT,Zn,ZP,Zab rfl,mM R h g (lv a rfl),Zx,ZM,Zn,Zy rfl,Zq,Za,Zf rfl rfl,ax f h2 rfl,Zb,<-jh R k g.b (lv a rfl) (λ_=>?_) (λz=>absurd g.i z),pX,ZM,Zn,ZH,Zm,Zf rfl rfl,ax f h2 rfl,bC j rfl,Zb,bt j rfl,jL R k (lv a rfl),ZL,Za,Zf rfl rfl,ax f h2 rfl,Zb,gj hr (by assumption),Hm (AU x),ZM,ZD,Zi,Ze,Zd,Zh,ZT,Zn,Zy rfl,Zo rfl,Zf rfl rfl,ax f h2 rfl,ax hr h4 rfl];have c:jJ x->bN af w K aH n [dj (.cmp .Eq (bD 825 [bA]) (.call .tuple [(bw aN 1)]))] (upd (sC ([.ref p]++[])) 1 (.bytes x.oct)) H (ic af w K n [dj (.qL (bD 825 [bA]) false)] (dF Q) (cG X)) (cG X):=λl=>by
  erw[Zt,Zad,Zz rfl,<-uZ R g (lv a rfl) (λ_=>?_) (λz=>absurd l z),ZL,Za,Zf rfl rfl,ax f h2 rfl,Zb,gj hr (by assumption),KI (AU x),Z8,<-bH Ext.refl q]
 refine cq (λh0=>?_) (λh0=>?_)
 ·erw[Z0,Zp,<-c (.inl h0)]
 ·erw[ZM,Zn,Zy rfl,Zo rfl,Zf rfl rfl,ax f h2 rfl,ax hr h4 rfl,<-cq (λh1=>?_) (λh1=>?_)]
  ·erw[Z0,Zp,<-c (.inr h1)]
  ·erw[ZM,ZD,Zi,Ze,Zd,Zt,Zac,Zz rfl,<-uZ R g (lv a rfl) (λz=>absurd z (λz=>z.elim h0 h1)) (λ_=>?_),lg rfl,<-bH Ext.refl q]
end
noncomputable def s9(m:Int):Nat->Nat->List Nat->Nat
 |_,k,[]=>k
 |rh,k,x::xs=>if 0<k/\m<(rh+x:Nat) then k else s9 m (rh+x) (k+1) xs
theorem Uh:s9 m t k (x::xs)=if 0<k/\m<(t+x:Nat) then k else s9 m (t+x) (k+1) xs:=rfl
theorem Ek(m:Int):∀(xs:List En)(r k:Nat),lim m r k xs=s9 m r k (xs.map λx=>x.oct.length)
 |[],_,_=>rfl
 |x::xs,r,k=>by
  show(if _ then _ else _)=(if _ then _ else _);rw[Ek m xs]
theorem xO(m:Int):∀(ws:List Nat)(r k:Nat),k<=s9 m r k ws/\s9 m r k ws<=k+ws.length/\
  (s9 m r k ws<k+ws.length->0<s9 m r k ws/\m<(r+(ws.take (s9 m r k ws-k+1)).sum:Nat))/\
  (s9 m r k ws=k\/s9 m r k ws=1\/(r+(ws.take (s9 m r k ws-k)).sum:Nat)<=m)
 |[],r,k=>⟨qQ,qQ,λh=>absurd h (iH _),.inl rfl⟩
 |x::ws,r,k=>by
  rw[Uh]
  by_cases q:0<k/\m<(r+x)
  ·erw[aj (if_pos q),<-⟨qQ,uX,λ_=>⟨q.1,?_⟩,.inl rfl⟩]
   simpa using q.2
  ·erw[aj (if_neg q),dY (xO m ws (r+x) (k+1)),(a b c d)];generalize s9 m (r+x) (k+1) ws=j at a b c d;have f:j-k=j-(k+1)+1:=by exact aS (yj [(zp av aX,bT),(bT,zp gi (zs aX))] (av,zs gi) rt (aa (bM (fp [(zs av,aX)] (av,aX) rt a))) (aa (ao (bM (fp [(zs av,aX)] (zs av,aX) rt a))))) (yj [(zp av (zs aX),bT),(bT,zp gi aX)] (zs av,gi) rt (aa (bM (fp [(zs av,aX)] (zs av,aX) rt a))) (aa (ao (bM (gP [(zp av (zs aX),bT)] (aX,bT) rt (aa (bM (fp [(zs av,aX)] (zs av,aX) rt a))))))))
   refine⟨fp [(zs av,aX)] (av,aX) rt a,gP [(av,zp (zs aX) bT)] (av,zp aX (zs bT)) rt b,λh=>?_,?_⟩
   ·erw[aD (c (gP [(zs av,zp aX (zs bT))] (zs av,zp (zs aX) bT) rt h)),(i g),<-⟨i,?_⟩,aj f,aj List.take_succ_cons,aj E6];rewrite[<-q8];exact g
   ·erw[aj f,aj E6];rewrite[<-q8];rcases d with d|d|d
    ·by_cases e:k=0
     ·exact .inr (.inl (aS (fp [(av,zn 0),(aX,zs av)] (aX,zn 1) rt (aa e) (aa d)) (fp [(zs av,aX)] (zn 1,aX) rt (aa (ao d)))))
     ·erw[<-.inr (.inr ?_),aj d];rewrite[oC];erw[aj List.sum_nil,<-fj.mp λh=>q ⟨Nat.pos_of_ne_zero e,h⟩]
    ·exact .inr (.inl d)
    ·exact .inr (.inr d)
noncomputable def xA(m:Int)(ws:List Nat):Nat->Nat
 |0=>min 1 ws.length
 |k+1=>if((ws.take (k+1)).sum:Nat)<=m then k+1 else xA m ws k
theorem Rk:xA m ws (k+1)=if((ws.take (k+1)).sum:Nat)<=m then k+1 else xA m ws k:=rfl
theorem BR(m:Int)(ws:List Nat):∀k,k<=ws.length->xA m ws k<=ws.length/\(∀i,xA m ws k<i->i<=k->m<((ws.take i).sum:Nat))/\(xA m ws k<=1\/((ws.take (xA m ws k)).sum:Nat)<=m)/\(1<=ws.length->1<=xA m ws k)
 |0,_=>⟨g_ _ _,λi h1 h2=>by
   have:i=0:=by exact aS (dK [(av,zn 0)] (av,zn 0) rt h2) (dK [] (zn 0,av) rt)
   subst this;exact absurd h1 (uh _),.inl (uc _ _),λh=>by exact Nat.le_min.mpr ⟨qQ,h⟩⟩
 |k+1,h=>by
  rw[Rk]
  by_cases q:((ws.take (k+1)).sum)<=m
  ·erw[aj (if_pos q),<-⟨h,λi h1 h2=>absurd h2 (tM.mpr h1),.inr q,λ_=>ij _⟩]
  ·erw[aj (if_neg q),dY (BR m ws k (Nat.le_of_succ_le h)),(a b c d),<-⟨a,λi h1 h2=>?_,c,d⟩]
   by_cases e:i=k+1
   ·subst e;exact mh.mp q
   ·exact b i h1 ((iw e).elim (λD=>fp [(zs av,zs aX)] (av,aX) rt D) (λD=>(FQ [(av,zs aX),(zs (zs aX),av)] rt h2 D).elim))
theorem Mk(ws:List Nat)(h:i<=j):(ws.take i).sum<=(ws.take j).sum:=by
 erw[bf (Nat.le.dest h),(k e)];subst e;erw[aj List.take_add,aj List.sum_append,<-uX]
theorem Pm(m:Int)(ws:List Nat):s9 m 0 0 ws=xA m ws ws.length:=by
 erw[dY (xO m ws 0 0),(_ a d a4),dY (BR m ws ws.length qQ),(k i b3 g)];generalize s9 m 0 0 ws=j at*;generalize xA m ws ws.length=f at*;rw[IK] at a d;have b:∀z:Nat,(0+(ws.take z).sum)=(ws.take z).sum:=λz=>IK _;rw[b] at a4;rcases Nat.lt_trichotomy j f with h|h|h
 ·erw[aD (d (gP [(zs av,aX),(aX,bT)] (zs av,bT) rt h k)),(e c)];have:=Mk ws (show j+1<=f by exact XC h);rcases b3 with b3|b3
  ·exact absurd (a_ h b3) (tP.mpr e)
  ·exact absurd (fO (aw.mpr this) b3) (mh.mpr (by rw[b] at c;exact c))
 ·exact h
 ·have h2:=i j h a;rcases a4 with a4|a4|a4
  ·exact aS (fp [(av,zn 0)] (av,aX) rt (aa a4)) (fp [(zs av,aX)] (av,aX) rt h)
  ·exact absurd (g (a4▸a)) (tM.mpr (a4▸h))
  ·exact aS (bW (λ_=>Vi [(ys cN,dX),(dX,cN)] rt h2 a4)) (bW (λ_=>Vi [(ys cN,dX),(dX,cN)] rt h2 a4))
section
variable{G:Hp}
def j_(H:Hp):List Addr->List En->Prop
 |[],[]=>True
 |r::rs,x::xs=>H r=some (.list x.vs)/\j_ H rs xs
 |_,_=>False
theorem j_.ext{H:Hp}(k:Ext H H'):∀{es:List Addr} {xs:List En},j_ H es xs->j_ H' es xs
 |[],[],_=>trivial
 |_::_,_::_,h=>⟨k _ _ h.1,j_.ext k h.2⟩
 |[],_::_,h=>h.elim
 |_::_,[],h=>h.elim
theorem j_.length{H:Hp}:∀{es:List Addr} {xs:List En},j_ H es xs->es.length=xs.length
 |[],[],_=>rfl
 |_::_,_::_,h=>congrArg (· +1) (j_.length h.2)
 |[],_::_,h=>h.elim
 |_::_,[],h=>h.elim
theorem j_.take{H:Hp}:∀{r:List Addr} {xs:List En} (k:Nat),j_ H r xs->j_ H (r.take k) (xs.take k)
 |_,_,0,_=>by refine' aj kQ ?_;trivial
 |[],[],_+1,_=>trivial
 |_::_,_::_,k+1,h=>⟨h.1,j_.take k h.2⟩
 |[],_::_,_+1,h=>h.elim
 |_::_,[],_+1,h=>h.elim
theorem dU.take{H:Hp}:∀{r:List Addr} {xs:List En} (k:Nat),dU H r xs->dU H (r.take k) (xs.take k)
 |_,_,0,_=>by refine' aj kQ ?_;trivial
 |[],[],_+1,_=>trivial
 |_::_,_::_,k+1,h=>⟨h.1,dU.take k h.2⟩
 |[],_::_,_+1,h=>h.elim
 |_::_,[],_+1,h=>h.elim
theorem tE(f:En->V)(h:H a=some (.list (aT es)))(l:xs.length<=1000)(k:j_ H es xs)(m:∀e x,x∈xs->H e=some (.list x.vs)->∀G:V->Hp->Prop,G (f x) H->dm af w K aH n elt (upd ρ 1000 (.ref e)) H G Ds)(q:∀c,H c=none->Q (.ref c) (upd H c (.list (xs.map f)))):tj af w K n elt none ρ Q (.ref a) H:=by
 have hl:(aT es).length<=1000:=by unfold aT;rewrite[aq];refine' aj k.length ?_;exact l
 refine sS h hl (λr d j=>j=H/\∃ZE b i,r=aT ZE/\b++i=xs/\d=b.map f/\j_ H ZE i) ⟨rfl,es,[],xs,rfl,rfl,rfl,k⟩ (λd j=>gr λe=>(nh · λZE b i e1 e2 e3 e4=>?_)) λv r d j=>gr λe=>(nh · λZE b i e1 e2 e3 e4 G g=>?_)
 ·subst e
  induction ZE using lcs with
  |cons=>injection e1
  |nil=>
   induction i using lcs with
   |cons=>exact e4.elim
   |nil=>
    rw[bb] at e2;replace e2:=e2.symm;subst e2;subst e3;exact q
 ·subst e
  induction ZE using lcs with
  |nil=>injection e1
  |cons e ZE=>
   induction i using lcs with
   |nil=>exact e4.elim
   |cons x i=>
    injection e1 with e1 e5
    subst e1;subst e5;exact m e x (by erw[c_ e2];simp) e4.1 G (g _ _ h ⟨rfl,ZE,b++[x],i,rfl,by erw[c_ e2];rewrite[aC];rfl,by erw[aj e3,aj aY];rfl,e4.2⟩)
theorem C0(l:List V)(k:Nat):cut l none (some (k:Int))=l.take k:=by
 unfold cut;dsimp only;rewrite[aM];erw[aj fS];rfl
theorem Ag:∀ws:List Nat,(ws.map λz:Nat=>(z:Int)).sum=((ws.sum:Nat):Int)
 |[]=>rfl
 |z::ws=>by refine' aj du ?_;refine' aj E6 ?_;refine' aj (Ag ws) ?_;exact OJ
theorem Em(R:Rd af w K)(ha:H a=some (.list (aT es)))(s:H b=some (.list (aT rs)))(p:dU H es xs)(hr:j_ H rs xs)(g:∀x∈xs,x.Good)(l:xs.length<=50)(hy:Y y)(P:aB 3 n=true)(q:Q (.bool true) H):
  aZ af w K n 837 [.ref a,.ref b,.int (y:Int)] H Q X:=by
 erw[R.HK.to rfl P,(n P)];have M:(aT rs).length=xs.length:=by rewrite[bG];refine' aj hr.length ?_;rfl
 have QR:∀x∈xs,x.oct.length<=300:=λx p=>En.gI (g x p).b.d (g x p).i;erw[Zg,ZK,Zc rfl,<-tE (λx=>.int (x.oct.length:Nat)) s (dM l rfl) hr (λe x W J G' T=>?_) λc hc=>?_]
 ·have ho:=QR x W;erw[ZN,Za,Zz rfl,mH R J (g x W).i (g x W).b.d (lv P rfl),Zb,fe (dM ho rfl),<-T]
 ·have ex:Ext H (upd H c (.list (xs.map λx=>.int ((x.oct.length:Nat):Int)))):=Ext.fresh Ext.refl hc;have hb':=ex _ _ s;have ha':=ex _ _ ha;have E:(xs.map λx=>V.int ((x.oct.length:Nat):Int)).length=xs.length:=aq _;generalize B:xs.map (λx=>x.oct.length)=ws;have r:ws.length=xs.length:=by refine' c_ B ?_;rw[aq]
  have ecv:(xs.map λx=>V.int (x.oct.length:Nat))=ws.map λz:Nat=>V.int z:=by refine' c_ B ?_;refine' aj eu ?_;rfl
  rw[ecv] at ex E⊢;have Y3:∀k:Nat,lh ((ws.map λz:Nat=>V.int z).take k)=some ((ws.take k).map λz:Nat=>(z:Int)):=λk=>by
   erw[c_ jC,<-xW (λz=>z) _]
  have hm:y%(xs.length+1)<=xs.length:=dh kv;have QZ:∀d L,H d=none->Ext H (upd (upd H c (.list (ws.map λz:Nat=>V.int z))) d L):=λd L hd=>Ext.fresh ex hd;erw[Zg,Zv rfl,ZC,Zar,Za,Z9,Zc rfl,ZW,Z7,ZI rfl,Zv rfl,ZG rfl,dW (ae (ne_sn s hc) s) (lM M l rfl),Zw,aj M,dI (d4.mpr spo),ie,pQ us trivial ⟨Bm,aU.mpr (fp [(av,zn 50),(aX,av)] (zs aX,zn ((2^60))) rt l hm)⟩ (lM E l rfl),(d hd)];rw[C0];erw[aD (bo hd),(D hdc),Zb,HI us (Y3 _) (by rewrite[aq];erw[aj dP,<-aF (g_ _ _) (lM r l rfl)])];rw[Ag];erw[Zv rfl,Zs rfl rfl,dT rfl hy.big rfl,dI rfl,Zw];generalize Tq:(((ws.take (y%(xs.length+1))).sum:Nat):Int)+((y / 7%3:Nat):Int)-1=m;erw[Z3,Zg,Zaq,Zr rfl,Za,ZG rfl,dW (ae (ne_sn s D) (ae (ne_sn s hc) s)) (lM M l rfl),Zb,Zan,oH,ZG rfl,dW (ae (ne_sn s D) (ae (ne_sn s hc) s)) (lM M l rfl),ie,aj M];refine uA (dM l rfl) (λA ρ u=>∃done,done++A=nC xs.length/\ρ 0=some (.ref a)/\ρ 1=some (.ref b)/\ρ 3=some (.ref c)/\ρ 4=some (.int m)/\ρ 5=some (.int ((xA m ws done.length:Nat):Int))/\Ext H u/\u c=some (.list (ws.map λz:Nat=>V.int (z:Int))))
   ?_ (λρ u=>(K6 · λdone e1 r0 r1 r3 O N I t=>?_)) λv A ρ u ih=>(K6 · λdone e1 r0 r1 r3 O N I t=>?_)
  ·refine⟨[],rfl,rfl,rfl,rfl,congrArg (λz=>some (V.int z)) Tq,?_,QZ d _ D,ae (aJ hdc) us⟩;show some (V.int (min 1 ((xs.length:Nat):Int)))=some (V.int ((min 1 ws.length:Nat):Int));erw[aj r]
   congr 2
   exact mnc
  ·rw[bb] at e1;have XB:done.length=xs.length:=by refine' aj e1 ?_;unfold nC;rewrite[aq];refine' aj d8 ?_;rfl
   rw[XB,<-r,<-Pm] at N;have S:s9 m 0 0 ws<=100:=by
    have:=(xO m ws 0 0).2.1;exact gP [(av,aX),(aX,zn 50),(bT,zp (zn 0) av)] (bT,zn 100) rt (aa r) l this
   erw[Zt,Zad,ZK,<-ZU r0 O ?_,<-uR R (I _ _ ha) (p.ext I) (λx p=>(g x p).b) (dM l rfl) (.inl λx p=>(g x p).i) (lv P rfl) (λ_ f hf=>?_) (λz=>absurd (λx p=>(g x p).i) z)];rewrite[Ek];erw[aj B];generalize s9 m 0 0 ws=j at N S;have G:∀L,Ext H (upd u f L):=λL=>Ext.fresh I (aI I hf);refine Au (λx=>.tup x.vs) us (aj dP (aF (g_ _ _) (dM l rfl))) ((p.take j).ext (G _)) (λe x W J G' T=>?_) λf2 U9=>?_
   ·have rD:=J;unfold En.o at rD;erw[Zm,Zc rfl,bC rD rfl,Zb,bt rD rfl,<-jL R J (lv P rfl) T]
   ·erw[ZK,Z9,<-Zc r1 ?_,ZW,Z7,<-Zc N ?_,ie];have hbb:(upd (upd u f (.list (aT (es.take j)))) f2 (.list ((xs.take j).map λx=>.tup x.vs))) b=some (.list (aT rs)):=Ext.fresh (G _) (aI (G _) U9) _ _ s;erw[pQ hbb trivial ⟨Bm,aU.mpr (dK [(av,zn 100)] (zs av,zn ((2^60))) rt S)⟩ (aj M (dM l rfl)),(f3 Vc)];have ecu:cut (aT rs) none (some (j:Int))=aT (rs.take j):=by rw[C0];unfold aT;refine' aj jC ?_;rfl
    erw[aj ecu];have F:Ext H (upd (upd (upd u f (.list (aT (es.take j)))) f2 (.list ((xs.take j).map λx=>.tup x.vs))) f3 (.list (aT (rs.take j)))):=Ext.fresh (Ext.fresh (G _) (aI (G _) U9)) (aI (Ext.fresh (G _) (aI (G _) U9)) Vc);refine tE (λx=>.tup x.vs) us (aj dP (aF (g_ _ _) (dM l rfl))) ((hr.take j).ext F) (λe x W J G' T=>?_) λf4 QI=>?_
    ·have h4:x.vs.length<=1000:=dc rfl;erw[ZL,ZF rfl,gj J (by assumption),<-T]
    ·erw[Nh (ae ?_ (ae ?_ us)) us (cJ.mpr λv hv=>?_)]
     ·exact λe=>(bo (bo QI).1).2 e.symm
     ·exact λe=>by refine aD (bo Vc) ?_;intro h1 h2;exact h2 e.symm
     ·erw[ay (cK.mp hv),(x _ iP)];subst iP;exact AU x
     ·exact bH (Ext.fresh F (aI F QI)) q
  ·have hv:v=.int (done.length:Int):=by
    have:(nC xs.length)[done.length]?=some v:=by refine' c_ e1 ?_;simp
    have C:done.length<xs.length:=by
     have:=congrArg cF e1;unfold nC at this;rw[ah,aV,aq,d8] at this;exact Uu this
    unfold nC at this;rw[cP,J4 C] at this;exact(bV this).symm
   subst hv;have C:done.length<xs.length:=by
    have:=congrArg cF e1;unfold nC at this;rw[ah,aV,aq,d8] at this;exact Uu this
   erw[Zh,<-Zy O ?_,Zar,Za,Z9,<-Zc r3 ?_,ZW,Z7,Zs rfl rfl,Zw,ie,aj (show((done.length:Nat):Int)+1=((done.length+1:Nat):Int) by exact PC),pQ t trivial ⟨Bm,aU.mpr (fp [(zs av,aX),(aX,zn 50)] (zs (zs av),zn ((2^60))) rt C l)⟩ (lM E l rfl),(f hf)];rw[C0];erw[Zb,HI us (Y3 _) (by rewrite[aq];erw[aj dP,<-aF (g_ _ _) (lM r l rfl)])];rw[Ag];have U:Ext H (upd u f (.list ((ws.map λz:Nat=>V.int (z:Int)).take (done.length+1)))):=Ext.fresh I (aI I hf);have Bf:(upd u f (.list ((ws.map λz:Nat=>V.int (z:Int)).take (done.length+1)))) c=some (.list (ws.map λz:Nat=>V.int (z:Int))):=ae (ne_sn t hf) t;refine DS (λh=>?_) (λh=>?_)
   ·erw[Zp,Zg,Zs rfl rfl,Zw,Ze,Zd,Ze,<-⟨trivial,ih _ _ ⟨done++[.int (done.length:Int)],by erw[c_ e1];rewrite[aC];rfl,r0,r1,r3,O,?_,U,Bf⟩⟩,aj ah,aj aW];rewrite[xA];erw[aj (if_pos h)];rfl
   ·erw[Zi,Ze,Zd,Ze,<-⟨trivial,ih _ _ ⟨done++[.int (done.length:Int)],by erw[c_ e1];rewrite[aC];rfl,r0,r1,r3,O,?_,U,Bf⟩⟩,aj ah,aj aW];rewrite[xA];erw[aj (if_neg (mh.mpr h)),<-N]
end
section
variable{G:Hp}
theorem EV(R:Rd af w K){x:En}(h:H a=some x.o)(b:x.AN)(r:¬x.In)(c:aB 2 n=true)(q:Q (.bool true) H):aZ af w K n 844 [.int 0,.ref a] H Q X:=by
 erw[R.pA.to rfl c,(n c)];have d:=h;unfold En.o at d;erw[ZV,Zh,Zj rfl rfl,<-cq (λ_=>?_) (λz=>absurd rfl z),Zp,Zk,Zm,Zc rfl,bC d rfl,Zb,bt d rfl,<-kT R h b (lv c rfl) (λz=>absurd z r) (λ_=>⟨rfl,λ_=>bH Ext.refl q⟩)]
theorem DP(R:Rd af w K){x:En}(h:H a=some x.o)(b:x.AN)(r:¬x.In)(c:aB 4 n=true)(q:Q (.bool true) H):aZ af w K n 844 [.int 1,.ref a] H Q X:=by
 erw[R.pA.to rfl c,(n c),ZV,Zh,Zj rfl rfl,d_ rfl,Zi,Zh,Zj rfl rfl,<-cq (λ_=>?_) (λz=>absurd rfl z),Zp,Zk,Zz rfl,<-jh R h b (lv c rfl) (λz=>absurd z r) (λ_=>⟨rfl,λ_=>bH Ext.refl q⟩)]
theorem yq(R:Rd af w K)(d:H m=some (dE h me v rej cj))(e:H me=some (.list (aT es)))(b:dU H es xs)(c:EI H v sn)(B:Cp h xs sn cj)(r:¬EW h xs)(a:aB 7 n=true)(q:Q (.bool true) H):aZ af w K n 844 [.int 2,.ref m] H Q X:=by
 erw[R.pA.to rfl a,(n a),ZV,Zh,Zj rfl rfl,d_ rfl,Zi,Zh,Zj rfl rfl,d_ rfl,Zi,Zh,Zj rfl rfl,<-cq (λ_=>?_) (λz=>absurd rfl z),Zp,Zk,Zz rfl,<-fW R d e b c B (lv a rfl) (λz=>absurd z r) (λ_=>⟨rfl,λ_=>bH Ext.refl q⟩)]
theorem Eh(R:Rd af w K)(d:H a=some (.list (aT es)))(c:dU H es xs)(B:∀x∈xs,x.AN)(b:xs.length<=100)(r:¬∀x∈xs,x.In)(h:aB 3 n=true)(q:Q (.bool true) H):aZ af w K n 844 [.int 3,.ref a] H Q X:=by
 erw[R.pA.to rfl h,(n h),ZV,Zh,Zj rfl rfl,d_ rfl,Zi,Zh,Zj rfl rfl,d_ rfl,Zi,Zh,Zj rfl rfl,d_ rfl,Zi,Zk,ZU rfl rfl,<-uR R d c B b (.inr (aw.mpr (dK [(zm 300 av,zm 300 (zn 100))] (zm 300 av,zn 99999) rt (aP 300 b)))) (lv h rfl) (λz=>absurd z r) (λ_=>⟨rfl,λ_=>bH Ext.refl q⟩)]
noncomputable def En.d7(x:En)(f:Nat)(v:Int):En:=match f with
 |0=>⟨v,x.i,x.k,x.d⟩
 |1=>⟨x.t,v,x.k,x.d⟩
 |_=>⟨x.t,x.i,v,x.d⟩
noncomputable def En.NX(x:En)(b:List UInt8):En:=⟨x.t,x.i,x.k,b⟩
theorem En.Good.d7{x:En}(g:x.Good)(f:Nat)(h:rG v):(x.d7 f v).Good:=by
 rcases g with⟨⟨b1,b2,b3,b4⟩,⟨i1,i2,i3⟩⟩
 match f with
 |0=>exact⟨⟨lP h,b2,b3,b4⟩,⟨h,i2,i3⟩⟩
 |1=>exact⟨⟨b1,lP h,b3,b4⟩,⟨i1,h,i3⟩⟩
 |_+2=>exact⟨⟨b1,b2,lP h,b4⟩,⟨i1,i2,h⟩⟩
theorem En.Good.NX{x:En}(g:x.Good){b:List UInt8}(h:b.length<=200):(x.NX b).Good:=
 ⟨⟨g.b.t,g.b.i,g.b.k,h⟩,⟨g.i.t,g.i.i,g.i.k⟩⟩
theorem mX(R:Rd af w K)(h:Pr H p e r x)(d:f<=2)(c:aB 0 n=true)(q:Q .none (upd (upd H r (.list (x.d7 f v).vs)) e (x.d7 f v).o)):aZ af w K n 804 [.ref p,.int (f:Int),.int v] H Q X:=by
 erw[R.MU.to rfl c,(n c)];rcases h with⟨hp,he,hr⟩
 have h2:([V.ref e,.ref r]).length<=100000:=dc rfl;have h4:x.vs.length<=100000:=dc rfl;have g:=fU hp hr (λz=>by cases z);have b:=fU he hr (λz=>by injection z);unfold En.o at he;erw[ZJ,Zc rfl,Zf rfl rfl,ax hp h2 rfl,Zc rfl,jc hr h4 gV (by exact aU.mpr (dK [(av,zn 2)] (zs av,zn 4) rt d))];rw[aM];have a:∀y,(upd H r y) p=some (.list [.ref e,.ref r]):=λy=>ae g hp;revert q;refine UA (gp d) ?_ ?_ ?_
 ·erw[(q),Zh,Zj rfl rfl,<-cq (λ_=>?_) (λz=>absurd rfl z),Zp,Zu,Zc rfl,Zf rfl rfl,ax (a _) h2 rfl,bQ (ae b he) rfl rfl,Ze,Zd,Ze,<-cR Ext.refl q]
 ·erw[(q),Zh,Zj rfl rfl,d_ rfl,Zi,Zh,Zj rfl rfl,<-cq (λ_=>?_) (λz=>absurd rfl z),Zp,Zu,Zc rfl,Zf rfl rfl,ax (a _) h2 rfl,bQ (ae b he) rfl rfl,Ze,Zd,Ze,Zd,Ze,<-cR Ext.refl q]
 ·erw[(q),Zh,Zj rfl rfl,d_ rfl,Zi,Zh,Zj rfl rfl,d_ rfl,Zi,Zh,Zj rfl rfl,<-cq (λ_=>?_) (λz=>absurd rfl z),Zp,Zu,Zc rfl,Zf rfl rfl,ax (a _) h2 rfl,bQ (ae b he) rfl rfl,Ze,Zd,Ze,Zd,Ze,Zd,Ze,<-cR Ext.refl q]
theorem OA(R:Rd af w K)(h:Pr H p e r x)(c:aB 0 n=true)(q:Q .none (upd (upd H r (.list (x.NX b).vs)) e (x.NX b).o)):aZ af w K n 804 [.ref p,.int 3,.bytes b] H Q X:=by
 erw[R.MU.to rfl c,(n c)];rcases h with⟨hp,he,hr⟩
 have h2:([V.ref e,.ref r]).length<=100000:=dc rfl;have h4:x.vs.length<=100000:=dc rfl;have f:=fU hp hr (λz=>by cases z);have d:=fU he hr (λz=>by injection z);unfold En.o at he;erw[ZJ,Zc rfl,Zf rfl rfl,ax hp h2 rfl,Zc rfl,jc hr h4 (dc rfl) (dc rfl)];have a:∀y,(upd H r y) p=some (.list [.ref e,.ref r]):=λy=>ae f hp;erw[Zh,Zj rfl rfl,d_ rfl,Zi,Zh,Zj rfl rfl,d_ rfl,Zi,Zh,Zj rfl rfl,d_ rfl,Zi,Zu,Zc rfl,Zf rfl rfl,ax (a _) h2 rfl,bQ (ae d he) rfl rfl,Ze,Zd,Ze,Zd,Ze,Zd,Ze,<-cR Ext.refl q]
theorem IB(R:Rd af w K){f y:Nat}(h:Pr H p e r x)(g:x.Good)(u:f<=3)(m:y<2^39)(a:aB 2 n=true)(q:∀x':En,x'.Good->Q .none (upd (upd H r (.list x'.vs)) e x'.o)):aZ af w K n 811 [.ref p,.int (f:Int),.int (y:Int)] H Q X:=by
 erw[R.Fy.to rfl a,(n a)];have s:=h.p;have hr:=h.r;have c:Y y:=b_ m (dc rfl);have j:y / 3<2^39:=aK (nQ _ _) m;have h2:([V.ref e,.ref r]).length<=100000:=dc rfl;have h4:x.vs.length<=100000:=dc rfl;erw[Zg,Zo rfl,Zf rfl rfl,ax s h2 rfl,<-W_ (gp u) ?_ ?_ ?_ ?_]
 ·
  erw[ax hr h4 rfl,Zh,ZT,Zn,Zj rfl rfl,<-fH (λ_=>?_) (λz=>absurd z (dc rfl)),Z0,Zp,Zk,Zq,Zr rfl,Zr rfl,Za,Zq,Zr rfl,Za,Zs rfl rfl,dT rfl c.big rfl,Zb,iC R g.i.t j (lv a rfl),(v l),Zb,mX R h (dc rfl) (lv a rfl),Ze,Zd,Ze,<-cR Ext.refl (q _ (g.d7 0 ⟨gV,o6 l⟩))]
 ·
  erw[ax hr h4 rfl,Zh,ZT,Zn,Zj rfl rfl,<-fH (λ_=>?_) (λz=>absurd z (dc rfl)),Z0,Zp,Zk,Zq,Zr rfl,Zr rfl,Za,Zq,Zr rfl,Za,Zs rfl rfl,dT rfl c.big rfl,Zb,iC R g.i.i j (lv a rfl),(v l),Zb,mX R h (dc rfl) (lv a rfl),Ze,Zd,Ze,<-cR Ext.refl (q _ (g.d7 1 ⟨gV,o6 l⟩))]
 ·
  erw[ax hr h4 rfl,Zh,ZT,Zn,Zj rfl rfl,<-fH (λz=>absurd z (dc rfl)) (λ_=>?_),ZM,Zn,ZR,Zn,Zj rfl rfl,<-cq (λ_=>?_) (λz=>absurd rfl z),Zp,Zn,Zy rfl,Zs rfl rfl,dI rfl,<-cq (λ_=>?_) (λ_=>?_)]
  ·erw[Zp,ZD,Z0,Zp,Zk,Zq,Zr rfl,Zr rfl,Za,Zq,Zr rfl,Za,Zs rfl rfl,dT rfl c.big rfl,Zb,iC R g.i.k j (lv a rfl),(v l),Zb,mX R h (dc rfl) (lv a rfl),Ze,Zd,Ze,<-cR Ext.refl (q _ (g.d7 2 ⟨gV,o6 l⟩))]
  ·erw[Zi,ZM,ZD,Zi,Zh,Zj rfl rfl,<-cq (λ_=>?_) (λz=>absurd rfl z),Zp,Zk,Zq,Zr rfl,Zr rfl,Za,Zak,Zj rfl rfl,<-cq (λ_=>?_) (λ_=>?_)]
   ·erw[Zp,ZA,Zb,mX R h (dc rfl) (lv a rfl),Ze,Zd,Ze,Zd,Ze,<-cR Ext.refl (q _ (g.d7 2 ⟨by decide,by decide⟩))]
   ·erw[Zi,ZA,Zb,mX R h (dc rfl) (lv a rfl),Ze,Zd,Ze,Zd,Ze,<-cR Ext.refl (q _ (g.d7 2 ⟨by decide,by decide⟩))]
 ·
  erw[ax hr h4 rfl,Zh,ZT,Zn,Zj rfl rfl,<-fH (λz=>absurd z (dc rfl)) (λ_=>?_),ZM,Zn,ZR,Zn,Zj rfl rfl,d_ rfl,Zi,ZM,ZD,Zi,Zh,Zj rfl rfl,d_ rfl,Zi,Zk,Zq,Zr rfl,Zr rfl,Za,ZU rfl rfl,i8 R g.b.d c (lv a rfl),(b A),Zb,OA R h (lv a rfl),Ze,Zd,Ze,Zd,Ze,<-cR Ext.refl (q _ (g.NX (aF A (dc rfl))))]
end
section
variable{G:Hp}
structure Tr where
 p:Addr
 e:Addr
 r:Addr
structure xY where
 sl:Addr
 s2:Addr
 a:Addr
 A:BM
structure CB where
 gl:Addr
 m:Addr
 nu:Addr
 g3:Addr
 me:Addr
 tr:List Tr
 sa:Option xY
def i_(H:Hp):List Tr->List En->Prop
 |[],[]=>True
 |t::ts,x::xs=>Pr H t.p t.e t.r x/\i_ H ts xs
 |_,_=>False
theorem i_.ext{H:Hp}(k:Ext H H'):∀{t:List Tr} {xs:List En},i_ H t xs->i_ H' t xs
 |[],[],_=>trivial
 |_::_,_::_,h=>⟨h.1.ext k,i_.ext k h.2⟩
 |[],_::_,h=>h.elim
 |_::_,[],h=>h.elim
theorem i_.length{H:Hp}:∀{t:List Tr} {xs:List En},i_ H t xs->t.length=xs.length
 |[],[],_=>rfl
 |_::_,_::_,h=>congrArg (· +1) (i_.length h.2)
 |[],_::_,h=>h.elim
 |_::_,[],h=>h.elim
theorem i_.OU{H:Hp}:∀{t:List Tr} {xs:List En},i_ H t xs->dU H (t.map (·.e)) xs
 |[],[],_=>trivial
 |_::_,_::_,h=>⟨h.1.e,i_.OU h.2⟩
 |[],_::_,h=>h.elim
 |_::_,[],h=>h.elim
theorem i_.rows{H:Hp}:∀{t:List Tr} {xs:List En},i_ H t xs->j_ H (t.map (·.r)) xs
 |[],[],_=>trivial
 |_::_,_::_,h=>⟨h.1.r,i_.rows h.2⟩
 |[],_::_,h=>h.elim
 |_::_,[],h=>h.elim
noncomputable def MN:Option xY->V
 |none=>.none
 |some z=>.ref z.sl
noncomputable def yR:Option xY->V
 |none=>.none
 |some z=>.ref z.a
noncomputable def Sn.vs(s:Sn)(s2:Addr):List V:=[.int s.i,.int s.t,.ref s2,.bool s.u,.bytes s.d]
structure nT(H:Hp)(z:xY)(s:Sn):Prop where
 sl:H z.sl=some (.list (s.vs z.s2))
 s2:H z.s2=some (.list (iv s.ids))
 sn:Br H z.a z.A s
def tY(H:Hp):Option xY->Option Sn->Prop
 |none,none=>True
 |some z,some s=>nT H z s
 |_,_=>False
theorem tY.Pf:∀{z:Option xY} {s:Option Sn},tY H z s->EI H (yR z) s
 |none,none,_=>.none
 |some _,some _,h=>.some h.sn
 |none,some _,h=>h.elim
 |some _,none,h=>h.elim
noncomputable def hl(h:Nat->Int):List V:=[.int (h 0),.int (h 1),.int (h 2),.int (h 3),.int (h 4),.int (h 5),.int (h 6),.int (h 7)]
def CB.gv(A:CB)(rej:Bool)(cj:List UInt8):List V:=[.ref A.m,.ref A.nu,.bool rej,.ref A.g3,MN A.sa,.bytes cj]
structure Mb(H:Hp)(A:CB)(h:Nat->Int)(xs:List En)(sn:Option Sn)(rej:Bool)(cj:List UInt8):Prop where
 g:H A.gl=some (.list (A.gv rej cj))
 m:H A.m=some (dE h A.me (yR A.sa) rej cj)
 nu:H A.nu=some (.list (hl h))
 g3:H A.g3=some (.list (aT (A.tr.map (·.p))))
 me:H A.me=some (.list (aT (A.tr.map (·.e))))
 BL:i_ H A.tr xs
 sn:tY H A.sa sn
theorem tY.ext{H:Hp}(k:Ext H H'):∀{z:Option xY} {s:Option Sn},tY H z s->tY H' z s
 |none,none,_=>trivial
 |some _,some _,h=>⟨k _ _ h.sl,k _ _ h.s2,h.sn.ext k⟩
 |none,some _,h=>h.elim
 |some _,none,h=>h.elim
theorem Mb.ext{H:Hp}(k:Ext H H'){s:Option Sn}(x:Mb H A h xs s rej cj):Mb H' A h xs s rej cj:=
 ⟨k _ _ x.g,k _ _ x.m,k _ _ x.nu,k _ _ x.g3,k _ _ x.me,x.BL.ext k,x.sn.ext k⟩
theorem xR:∀l:List Int,ql (l.map λi=>V.bytes (vi i))=some ((l.map vi).flatten)
 |[]=>rfl
 |i::l=>by
  show(ql (l.map _)).map (vi i++ ·)=_;erw[aj (xR l)];rfl
theorem zu:∀l:List Int,(∀i∈l,rG i)->((l.map vi).flatten).length<=10*l.length
 |[],_=>qQ
 |i::l,h=>by
  erw[aj du,aj fC,aj ah,aj aV];have a:=zu l (λj b=>h j (fV b));have w:=eJ (h i kf);exact gP [(av,zm 10 aX),(bT,zn 10)] (zp bT av,zm 10 (zs aX)) rt a w
theorem AH(h:ids.length<=30):jv ids u=toBytes [(ids.length:Int)]++(ids.map vi).flatten++toBytes [0,0,0,if u=true then 1 else 0]:=by
 have e:toBytes [ids.length]=vr ids.length:=by refine' aj (GQ gV (oZ [(cN,yn 30)] (ys cN,yn 128) rt (aw.mpr h))) ?_;rw[gN]
 have z:mu []=[0]:=by unfold mu;refine' aj (qE (dc rfl)) ?_;rfl
 unfold jv;erw[aj z,aj e];unfold mu
 induction u using tW<;>simp[toBytes,fb]
theorem OX(R:Rd af w K)(h:nT H z s)(I:s.Ok)(f:aB 2 n=true)(q:s.oct.length<=2000->Q (.bytes s.oct) H):aZ af w K n 849 [.ref z.sl] H Q X:=by
 erw[R.NG.to rfl f,(n f)];have j:=h.sl;have Y:=h.s2;have y:=I.ids.len;have P:(iv s.ids).length=s.ids.length:=by unfold iv;rw[aq]
 have h5:(s.vs z.s2).length<=100000:=dc rfl;have r:=zu s.ids I.ids.Hx;have m:=eJ I.i;have k:=eJ I.t;have F:=I.d;have o:∀l:List Int,(toBytes l).length=l.length:=λl=>by unfold toBytes;rw[aq]
 have N:(jv s.ids s.u).length<=400:=by
  erw[aj (AH y)];simp only[ah,o];exact X7 r y
 have M:(tx (jv s.ids s.u)).length<=420:=by
  have:=fR 9 _ (aK N (dc rfl));unfold tx;erw[aj ah,<-Oq this N rfl]
 have U:(tx s.d).length<=220:=by
  have:=fR 9 _ (aK F (dc rfl));unfold tx;erw[aj ah,<-Oq this F rfl]
 erw[Zg,ZC,ZC,ZX,Za,eR rfl,Za,ZN,Za,Zf rfl rfl,ax j h5 rfl,Zb,dW Y (lM P y rfl),Zb,aj P,(c hc)];have A:∀L,Ext H (upd H c L):=λL=>Ext.fresh Ext.refl hc;erw[Zb,vx us rfl (λi g=>by erw[aj (aR.mp g),<-⟨aw.mpr (dK [] (zn 0,av) rt),aU.mpr (dK [(av,zn 30)] (zs av,zn 256) rt y)⟩]) (aE rfl),Zm,ZA,<-Iq ⟨rfl,?_⟩,Za,ZK,Zf rfl rfl,ax (A _ _ _ j) h5 rfl];have B:=A (.list [.int s.ids.length]) _ _ Y;refine comp_map (λv=>match v with| .int i=>.bytes (vi i)|_=>.none) B (lM P y rfl) (λv hv G' hG=>?_) λd E=>?_
 ·erw[ay (cK.mp hv),(i g eK)];subst eK;erw[Zz rfl,<-jP R (I.ids.Hx i g) (lv f rfl) hG]
 ·have em:(iv s.ids).map (λv=>match v with| .int i=>V.bytes (vi i)|_=>.none)=s.ids.map λi=>V.bytes (vi i):=by
   unfold iv;erw[aj eu];rfl
  erw[aj em];have D:=aI (A _) E;have J:∀L W,Ext H (upd (upd H c L) d W):=λL W=>Ext.fresh (A _) D;erw[Zb,M_ us (xR _) (by rw[aq];exact dM y rfl) (YD r y rfl),fM (by rw[o];exact fp [(av,zm 10 aX),(zm 10 aX,zm 10 (zn 30))] (zp (zn 1) av,zn 1000000) rt r (aP 10 y)),ZX,Za,eR rfl,Zr rfl,Zr rfl,Zr rfl,Za,Zak,Zat,Zc rfl,ZA,ax (J _ _ _ _ j) h5 rfl];have G:∀e b,Ext H b->b e=none->bN af w K aH n [dj (.bin .Add (.bin .Add (.bin .Add (bD 769 [(bw aN 0)]) (bD 769 [(bw aN 1)])) (bD 776 [bA])) (bD 776 [(bw aN 4)]))] (upd (sC ([.ref z.sl]++[])) 1 (.bytes (jv s.ids s.u))) (upd b e (.list [.int 0,.int 0,.int 0,.int (if s.u=true then 1 else 0)])) (dF Q) (cG X):=λe b e1 e2=>by
   have x:∀L,Ext H (upd b e L):=λL=>Ext.fresh e1 (aI e1 e2);erw[Zt,ZC,ZC,ZC,Zq,Za,Zf rfl rfl,ax (x _ _ _ j) h5 rfl,Zb,jP R I.i (lv f rfl),Zq,Za,Zf rfl rfl,ax (x _ _ _ j) h5 rfl,Zb,jP R I.t (lv f rfl),fM (Oq m k rfl),Zz rfl,jU R (dM N rfl) (lv f rfl),fM (aj ah (gP [(av,zn 10),(aX,zn 10),(bT,zn 420)] (zp (zp av aX) bT,zn 1000000) rt m k M)),Zq,Za,Zf rfl rfl,ax (x _ _ _ j) h5 rfl,Zb,jU R (dM F rfl) (lv f rfl),fM (aj ah (aj ah (yj [(av,zn 10),(aX,zn 10),(bT,zn 220),(gi,zn 420)] (zp (zp (zp av aX) gi) bT,zn 1000000) rt m k U M)))];have:=q (by unfold Sn.oct;simp only[ah];exact yj [(av,zn 10),(aX,zn 10),(bT,zn 220),(gi,zn 420)] (zp (zp (zp av aX) gi) bT,zn 2000) rt m k U M);exact bH (x _) this
  have a:∀e b,Ext H b->b e=none->jR .bytes [.ref e] (upd b e (.list [.int 0,.int 0,.int 0,.int (if s.u=true then 1 else 0)])) (λv T=>kI .Add (.bytes (toBytes [s.ids.length]++(s.ids.map vi).flatten)) v T λv T=>bN af w K aH n [dj (.bin .Add (.bin .Add (.bin .Add (bD 769 [(bw aN 0)]) (bD 769 [(bw aN 1)])) (bD 776 [bA])) (bD 776 [(bw aN 4)]))] (upd (sC ([.ref z.sl]++[])) 1 v) T (dF Q) (cG X)):=λe b e1 e2=>by
   erw[vx us rfl (λi g=>?_) (aE rfl)]
   ·have:i=0\/i=1:=by cases p:s.u<;>rw[p] at g<;>simp at g<;>(first|assumption|exact .inl (g))
    exact⟨this.elim (λS=>oZ [(yn 0,cN)] (yn 0,cN) rt (aG (ao S))) (λS=>oZ [(yn 1,cN)] (yn 0,cN) rt (aG (ao S))),this.elim (λO=>oZ [(cN,yn 0)] (ys cN,yn 256) rt (aG O)) (λO=>oZ [(cN,yn 1)] (ys cN,yn 256) rt (aG O))⟩
   ·erw[fM (by erw[aj ah];rewrite[o,o];exact fp [(av,zm 10 aX),(zm 10 aX,zm 10 (zn 30))] (zk (zp (zn 1) av) 4,zn 1000000) rt r (aP 10 y)),c_ (AH y),<-G e b e1 e2]
  cases p:s.u with
  |true=>
   rw[p] at a;erw[Zx,Zp,ZA,Zb,(e C),Zb,<-a e _ (J _ _) C]
  |false=>
   rw[p] at a;erw[Zx,Zi,ZA,Zb,(e C),Zb,<-a e _ (J _ _) C]
end
section
variable{G:Hp}
theorem Aq:∀xs:List En,(∀x∈xs,x.Good)->((xs.map λx=>tx x.oct).flatten).length<=310*xs.length
 |[],_=>qQ
 |x::l,g=>by
  erw[aj ah];have a:=Aq l (λy c=>g y (fV c));have h:=En.gI (g x kf).b.d (g x kf).i;have w:=fR 9 _ (aK h (dc rfl));erw[aj ah,<-yj [(av,zn 10),(aX,zn 300),(bT,zm 310 gi)] (zp (zp av aX) bT,zm 310 (zs gi)) rt w h a]
structure um(h:Nat->Int)(xs:List En)(sn:Option Sn)(cj:List UInt8):Prop where
 hi:∀j,j<8->rG (h j)
 zx:h 0<=20
 xg:∀x∈xs,x.Good
 len:xs.length<=10
 so:∀s,sn=some s->s.Ok
 c:cj.length<=200
theorem um.big(o:um h xs sn cj):Cp h xs sn cj:=
 ⟨λj d=>lP (o.hi j d),λx a=>(o.xg x a).b,o.len,o.so,o.c⟩
theorem um.Hx(o:um h xs sn cj):EW h xs:=⟨o.hi,λx a=>(o.xg x a).i⟩
theorem Sn.gI{s:Sn}(I:s.Ok):s.oct.length<=2000:=by
 have b:=eJ I.i;have v:=eJ I.t;have h:=I.d;have y:=I.ids.len;have f:=zu s.ids I.ids.Hx;have e:∀l:List Int,(toBytes l).length=l.length:=λl=>by unfold toBytes;rw[aq]
 have c:(jv s.ids s.u).length<=400:=by
  erw[aj (AH y)];simp only[ah,e];exact X7 f y
 have a:=fR 9 _ (aK c (dc rfl));have w:=fR 9 _ (aK h (dc rfl));unfold Sn.oct tx;simp only[ah];exact UY [(av,zn 10),(aX,zn 10),(bT,zn 200),(gi,zn 400),(r_,zn 10),(ED,zn 10)] (zp (zp (zp av aX) (zp r_ gi)) (zp ED bT),zn 2000) rt b v h c a w
theorem MX(o:∀s,sn=some s->s.Ok):(y8 sn).length<=2011:=by
 induction sn using tU with
 |none=>show 1<=2011;decide
 |some s=>
  have h:=Sn.gI (o s rfl);have:=fR 9 _ (aK h (dc rfl));unfold y8 tx;simp only[ah,aW];exact fp [(av,zn 10),(aX,zn 2000)] (zp (zn 1) (zp av aX),zn 2011) rt this h
theorem zU(o:um h xs sn cj):(xB h xs sn rej cj).length<=6000:=by
 have l0:=eJ (o.hi 0 (dc rfl));have l1:=eJ (o.hi 1 (dc rfl));have l2:=eJ (o.hi 2 (dc rfl));have l3:=eJ (o.hi 3 (dc rfl));have l4:=eJ (o.hi 4 (dc rfl));have l5:=eJ (o.hi 5 (dc rfl));have l6:=eJ (o.hi 6 (dc rfl));have l7:=eJ (o.hi 7 (dc rfl));have e:=Aq xs o.xg;have l:=o.len;have s:=MX o.so;have c:=o.c;have a:=fR 9 _ (aK l (dc rfl));have w:=fR 9 _ (aK c (dc rfl));unfold xB tx at*;simp only[ah,aW];exact bW (lq (ab0 _ _ _ _ _ _ _ _ _ _ _ _ _ _) [(av,zn 10),(aX,zn 10),(bT,zn 10),(gi,zn 10),(r_,zn 10),(ED,zn 10),(Vb,zn 10),(zx7,zn 10),(zx8,zm 310 zx9),(zm 310 zx9,zm 310 (zn 10)),(Wx,zn 2011),(Vk,zn 200),(Yv,zn 10),(Ym,zn 10),(zs (zn 6000),zp (zp (zp (zp (zs (zp (zp (zp (zp (zp (zp (zp av aX) bT) gi) r_) ED) Vb) zx7)) Yv) zx8) Wx) (zp Ym Vk))] rt l0 l1 l2 l3 l4 l5 l6 l7 e (aP 310 l) s c a w)
theorem tY.qL(h:tY H z s):isNone (MN z)=some s.isNone:=by
 induction z using tU<;>cases s<;>first|rfl|exact h.elim
theorem tc(R:Rd af w K)(M:Mb H A h xs sn rej cj)(o:um h xs sn cj)(y:aB 4 n=true)(q:Q (.bytes (xB h xs sn rej cj)) H):aZ af w K n 854 [.ref A.gl] H Q X:=by
 erw[R.B7.to rfl y,(n y)];have k:=M.g;have h6:(A.gv rej cj).length<=100000:=dc rfl;have f:=zU (rej:=rej) o;have N:=o.len;have U:(aT (A.tr.map (·.p))).length=xs.length:=by rewrite[bG,aq];refine' aj M.BL.length ?_;rfl
 have tb:∀l:List Int,(toBytes l).length=l.length:=λl=>by unfold toBytes;rw[aq]
 have Cx:=o.c;have eB:((hl h).map λv=>match v with| .int i=>V.bytes (vi i)|_=>.none)=[h 0,h 1,h 2,h 3,h 4,h 5,h 6,h 7].map λi=>V.bytes (vi i):=rfl;erw[Zg,ZC,Zm,<-Iq ⟨rfl,?_⟩,Za,ZK,Zf rfl rfl,ax k h6 rfl,<-comp_map (λv=>match v with| .int i=>.bytes (vi i)|_=>.none) M.nu (dc rfl) (λv hv G' hG=>?_) λc hc=>?_]
 ·have:∃j,j<8/\v=.int (h j):=by
   unfold hl at hv;simp only[bE,AY,or_false] at hv;rcases hv with e|e|e|e|e|e|e|e
   ·exact⟨0,by decide,e⟩
   ·exact⟨1,by decide,e⟩
   ·exact⟨2,by decide,e⟩
   ·exact⟨3,by decide,e⟩
   ·exact⟨4,by decide,e⟩
   ·exact⟨5,by decide,e⟩
   ·exact⟨6,by decide,e⟩
   ·exact⟨7,by decide,e⟩
  erw[ay this];clear this;intro j hj eK;subst eK;erw[Zz rfl,<-jP R (o.hi j hj) (lv y rfl) hG]
 ·erw[aj eB];have C:∀L,Ext H (upd H c L):=λL=>Ext.fresh Ext.refl hc;have Y:=zu [h 0,h 1,h 2,h 3,h 4,h 5,h 6,h 7] (λi hi=>by
   simp only[bE,AY,or_false] at hi;rcases hi with e|e|e|e|e|e|e|e<;>refine' aj e ?_<;>exact o.hi _ (dc rfl))
  have Y:=Y;have eF:([h 0,h 1,h 2,h 3,h 4,h 5,h 6,h 7].map vi).flatten=vi (h 0)++vi (h 1)++vi (h 2)++vi (h 3)++vi (h 4)++vi (h 5)++vi (h 6)++vi (h 7):=by
   simp only[du,tu,fC,rB,bb,aC]
  generalize hV:(List.map (λi=>V.bytes (vi i)) [h 0,h 1,h 2,h 3,h 4,h 5,h 6,h 7])=vb;have hvb:ql vb=some (([h 0,h 1,h 2,h 3,h 4,h 5,h 6,h 7].map vi).flatten):=by refine' c_ hV ?_;exact xR _
  have hvl:vb.length=8:=by refine' c_ hV ?_;rfl
  erw[Zb,M_ us hvb (zwb hvl rfl) (dM Y rfl),ZX,Za,eR rfl,Za,Zak,Zat,Zc rfl,ZA,ax (C _ _ _ k) h6 rfl];have e5:toBytes [if rej=true then 1 else 0,xs.length]=[fb rej]++vr xs.length:=by
   erw[aj (qE (aK N (aE rfl)))]
   induction rej using tW<;>rfl
  have m:∀d T,Ext H T->T d=none->jR .bytes [.ref d] (upd T d (.list [.int (if rej=true then 1 else 0),.int xs.length])) (λv B=>kI .Add (.bytes (([h 0,h 1,h 2,h 3,h 4,h 5,h 6,h 7].map vi).flatten)) v B λv B=>bN af w K aH n [.q9 2 (bw aN 3) [.bq 1 (.bin .Add bA (bD 776 [(bD 797 [(bw dC 1)])]))],.dp (.qL (bw aN 4) false) [.bq 1 (.bin .Add bA (.cst (.bytes [0])))] [.bq 1 (.bin .Add (.bin .Add bA (.cst (.bytes [1]))) (bD 776 [(bD 849 [(bw aN 4)])]))],dj (.bin .Add bA (bD 776 [(bw aN 5)]))] (upd (sC ([.ref A.gl]++[])) 1 v) B (dF Q) (cG X)):=λd T J P=>by
   erw[vx us rfl (λi hi=>?_) (aE rfl)]
   ·rcases bE.mp hi with rfl|hi
    ·split<;>decide
    ·erw[aj (aR.mp hi),<-⟨aw.mpr (dK [] (zn 0,av) rt),aU.mpr (dK [(av,zn 10)] (zs av,zn 256) rt N)⟩]
   ·erw[fM (by rw[tb];exact OV Y rfl),aj e5,aj eF];generalize U7:upd T d (.list [.int (if rej=true then 1 else 0),.int xs.length])=H2;have a:Ext H H2:=by refine' c_ U7 ?_;exact Ext.fresh J (aI J P)
    generalize hb0:vi (h 0)++vi (h 1)++vi (h 2)++vi (h 3)++vi (h 4)++vi (h 5)++vi (h 6)++vi (h 7)++([fb rej]++vr xs.length)=b0;have eM:xB h xs sn rej cj=b0++(xs.map λx=>tx x.oct).flatten++y8 sn++tx cj:=by
     erw[c_ hb0];unfold xB;simp only[aC]
    rw[eM] at f;simp only[ah] at f;erw[Z_,Zf rfl rfl,ax (a _ _ k) h6 rfl];refine Gd (a _ _ M.g3) (lM U N rfl) (λu ρ B=>B=H2/\∃t2 J a,u=aT (t2.map (·.p))/\J++a=xs/\i_ H t2 a/\ρ 0=some (.ref A.gl)/\ρ 1=some (.bytes (b0++(J.map λx=>tx x.oct).flatten)))
     ⟨rfl,A.tr,[],xs,rfl,rfl,M.BL,rfl,by simp;rfl⟩ (λρ B=>gr λe0=>(zD · λt2 y1 D I G F E c5=>?_)) λv u ρ B ih=>gr λe0=>(zD · λt2 y1 D I G F E c5=>?_)
    ·subst e0;have:t2=[]:=by
      induction t2 using lcs with
      |nil=>rfl
      |cons=>injection I
     subst this;have:D=[]:=by
      induction D using lcs with
      |nil=>rfl
      |cons=>exact F.elim
     subst this;rw[bb] at G;subst G;have S:∀ρ:Loc,ρ 0=some (.ref A.gl)->ρ 1=some (.bytes (b0++(y1.map λx=>tx x.oct).flatten++y8 sn))->bN af w K aH n [dj (.bin .Add bA (bD 776 [(bw aN 5)]))] ρ B (dF Q) (cG X):=λρ r0 r1=>by
      erw[Zt,<-ZI r1 ?_,Zq,Za,Zo rfl,<-Zc r0 ?_,ax (a _ _ k) h6 rfl,Zb,jU R (dM Cx rfl) (lv y rfl),fM (by simp only[ah];exact dM f rfl),c_ eM,<-bH a q]
     erw[Zh,ZS,Zo rfl,<-Zc E ?_,ax (a _ _ k) h6 rfl,lg M.sn.qL];have Lk:=o.so;have xd:=M.sn;generalize hsa:A.sa=sa at xd
     induction sn using tU with
     |none=>
      erw[Zp,Zg,Zv rfl,<-Zc c5 ?_,fM (by simp only[ah];exact X1 f),Ze,Zd,<-S _ E rfl]
     |some s=>
      induction sa using tU with
      |none=>exact xd.elim
      |some z=>
       erw[Zi,Zg,ZC,Zv rfl,<-Zc c5 ?_,fM (by simp only[ah];exact X1 f),Zq,Za,Zq,Za,Zo rfl,<-Zc E ?_,ax (a _ _ k) h6 rfl,aj hsa,Zb];have E9:=Sn.gI (Lk s rfl);erw[<-OX R (tY.ext a xd) (Lk s rfl) (lv y rfl) λ_=>?_,Zb,jU R (dM E9 rfl) (lv y rfl)];have sl:(y8 (some s)).length=1+(tx s.oct).length:=by unfold y8;refine' aj ah ?_;rfl
       rw[sl] at f;erw[fM (by simp only[ah];exact gP [(zp (zp av (zp (zn 1) aX)) bT,zn 6000)] (zp (zs av) aX,zn 1000000) rt f),Ze,Zd,S _ E,aj (aC _ [1] _)];rfl
    ·induction t2 using lcs with
     |nil=>injection I
     |cons t t2=>
      induction D using lcs with
      |nil=>exact F.elim
      |cons x D=>
       injection I with I c6
       subst I;subst c6;replace e0:=e0.symm;subst e0;have hx:x∈xs:=by refine' c_ G ?_;simp
       have W:=o.xg x hx;have ho:=En.gI W.b.d W.i;have Rb:=Aq xs o.xg;rw[<-G] at Rb f;simp only[aY,du,jt,fC,ah] at f;erw[Zg,<-ZI c5 ?_,ax (a _ _ F.1.p) (dc rfl) rfl,Zb,mH R (a _ _ F.1.r) W.i W.b.d (lv y rfl),Zb,jU R (dM ho rfl) (lv y rfl),fM (by simp only[ah];exact UY [(zp (zp (zp av (zp aX (zp bT gi))) r_) ED,zn 6000)] (zp (zp av aX) bT,zn 1000000) rt f),Ze,<-⟨a _ _ M.g3,ih _ _ ⟨rfl,t2,y1++[x],D,rfl,by erw[c_ G];rewrite[aC];rfl,F.2,E,?_⟩⟩];show some (V.bytes _)=_;erw[aj aY,aj jt];rewrite[aC];simp
  cases O:rej with
  |true=>
   rw[O] at m k;erw[ax (C _ _ _ k) h6 rfl,Zb,dW (C _ _ _ M.g3) (lM U N rfl),aj U,Zb,(d P),Zb,<-m d _ (C _) P]
  |false=>
   rw[O] at m k;erw[ax (C _ _ _ k) h6 rfl,Zb,dW (C _ _ _ M.g3) (lM U N rfl),aj U,Zb,(d P),Zb,<-m d _ (C _) P]
end
section
variable{G:Hp}
theorem K4(f:En->V)(h:H a=some (.list (aT (ts.map (·.p)))))(l:xs.length<=1000)(m:i_ H ts xs)(o:∀(t:Tr)(x:En),x∈xs->Pr H t.p t.e t.r x->∀G:V->Hp->Prop,G (f x) H->dm af w K aH n elt (upd ρ 1000 (.ref t.p)) H G Ds)(q:∀c,H c=none->Q (.ref c) (upd H c (.list (xs.map f)))):tj af w K n elt none ρ Q (.ref a) H:=by
 have hl:(aT (ts.map (·.p))).length<=1000:=by rewrite[bG,aq];refine' aj m.length ?_;exact l
 refine sS h hl (λd j k=>k=H/\∃t2 i b,d=aT (t2.map (·.p))/\i++b=xs/\j=i.map f/\i_ H t2 b) ⟨rfl,ts,[],xs,rfl,rfl,rfl,m⟩ (λj k=>gr λe=>(nh · λt2 i b e1 e2 e3 e4=>?_)) λv d j k=>gr λe=>(nh · λt2 i b e1 e2 e3 e4 G g=>?_)
 ·replace e:=e.symm;subst e
  induction t2 using lcs with
  |cons=>injection e1
  |nil=>
   induction b using lcs with
   |cons=>exact e4.elim
   |nil=>
    rw[bb] at e2;replace e2:=e2.symm;subst e2;subst e3;exact q
 ·replace e:=e.symm;subst e
  induction t2 using lcs with
  |nil=>injection e1
  |cons t t2=>
   induction b using lcs with
   |nil=>exact e4.elim
   |cons x b=>
    injection e1 with e1 e5
    subst e1;subst e5;exact o t x (by erw[c_ e2];simp) e4.1 G (g _ _ h ⟨rfl,t2,i++[x],b,rfl,by erw[c_ e2];rewrite[aC];rfl,by erw[aj e3,aj aY];rfl,e4.2⟩)
theorem O7(R:Rd af w K)(M:Mb H A h xs sn rej cj)(o:xs.length<=10)(C:∀s,sn=some s->xh s.ids)(v:aB 0 n=true)(q:Q (CD h xs sn rej cj) H):aZ af w K n 859 [.ref A.gl] H Q X:=by
 erw[R.uE.to rfl v,(n v)];have e:=M.g;have h6:(A.gv rej cj).length<=100000:=dc rfl;have h8:(hl h).length<=100000:=dc rfl;erw[Zg,Zf rfl rfl,ax e h6 rfl,Z1 rfl,Zh,ZS,Zf rfl rfl,ax e h6 rfl,lg M.sn.qL];have f:∀ρ:Loc,ρ 0=some (.ref A.gl)->ρ 1=some (.ref A.nu)->ρ 2=some (Gy sn)->bN af w K aH n [.bq 4 (.call .tuple [(.comp (.call .tuple [(bw (.loc 1000) 1)]) (bw aN 3) none)]),dj (.tup [(bw bA 0),(bw bA 1),(bw bA 2),(bw bA 3),(bw bA 4),(bw bA 5),fG,(bw bA 6),dC,(bw aN 2),(bw bA 7),(bw aN 5)])] ρ H (dF Q) (cG X):=λρ j a B=>by
  erw[Zg,ZL,Za,ZK,Zo rfl,<-Zc j ?_,ax e h6 rfl,<-K4 (λx=>.tup x.vs) M.g3 (dM o rfl) M.BL (λt x G u J E=>?_) λc D=>?_]
  ·have h4:x.vs.length<=1000:=dc rfl;have l:=u.p;have F:=u.r;erw[ZL,Za,Zf rfl rfl,ax l (dc rfl) rfl,Zb,gj F (by assumption),<-E]
  ·have m:∀L,Ext H (upd H c L):=λL=>Ext.fresh Ext.refl D;have b:=λL=>m L _ _ M.nu;have d:=λL=>m L _ _ e;erw[Zb,gj us (by rw[aq];exact dM o rfl),Zt,i7 rfl,Za,Zo rfl,<-Zc a ?_,ax (b _) h8 rfl,Za,Zo rfl,<-Zc a ?_,ax (b _) h8 rfl,Za,Zo rfl,<-Zc a ?_,ax (b _) h8 rfl,Za,Zo rfl,<-Zc a ?_,ax (b _) h8 rfl,Za,Zo rfl,<-Zc a ?_,ax (b _) h8 rfl,Za,Zo rfl,<-Zc a ?_,ax (b _) h8 rfl,Zr rfl,Za,Zo rfl,<-Zc a ?_,ax (b _) h8 rfl,<-Zr B ?_,Za,Zo rfl,<-Zc j ?_,ax (d _) h6 rfl,Za,Zo rfl,<-Zc a ?_,ax (b _) h8 rfl,Za,Zo rfl,<-Zc j ?_,ax (d _) h6 rfl,Zb,<-bH (m _) q]
 have i:=M.sn;generalize k:A.sa=sa at i
 induction sn using tU with
 |none=>
  erw[Zi,Ze,Zd,<-f _ rfl rfl rfl]
 |some s=>
  induction sa using tU with
  |none=>exact i.elim
  |some z=>
   erw[Zp,Zg,Zf rfl rfl,ax e h6 rfl];have h5:(s.vs z.s2).length<=100000:=dc rfl;have I:=i.sl;have W:=i.s2;have y:=(C s rfl).len;have P:(iv s.ids).length<=1000:=by unfold iv;rw[aq];exact dM y rfl
   erw[aj k];unfold MN;erw[Zg,i7 rfl,Za,Zf rfl rfl,ax I h5 rfl,Za,Zf rfl rfl,ax I h5 rfl,Za,i7 rfl,Za,ZL,Za,Zf rfl rfl,ax I h5 rfl,Zb,gj W (by assumption),Za,i7 rfl,Zb,Za,i7 rfl,Zb,Za,i7 rfl,Zb,Za,Zf rfl rfl,ax I h5 rfl,Zb,Za,Zf rfl rfl,ax I h5 rfl,Zb,Ze,Zd,<-f _ rfl rfl rfl]
theorem pL{cond:V->Hp->(Bool->Hp->Prop)->Prop}(I:List V->List V->Hp->Prop):∀(vs a:List V) {H:Hp},I vs a H->(∀a H,I [] a H->F a H)->
  (∀v r a H,I (v::r) a H->∀G:Bool->Hp->Prop,(∀d,qR d->I r a d->G false d)->(∀d,(∀g:V->Hp->Prop,(∀x f,qR f->I r (a++[x]) f->g x f)->elt v d g)->G true d)->cond v H G)->j8 elt cond qR vs a H F
 |[],a,H,h,h0,_=>h0 _ _ h
 |v::vs,a,H,h,h0,hs=>by
  refine hs v vs a H h (λb d=>if b=true then elt v d λx f=>qR f/\j8 elt cond qR vs (a++[x]) f F else qR d/\j8 elt cond qR vs a d F) (λd c i=>?_) λd e=>?_
  ·exact Zi ⟨c,pL I vs _ i h0 hs⟩
  ·exact Zp (e _ λx f c i=>⟨c,pL I vs _ i h0 hs⟩)
theorem yM(R:Rd af w K)(M:Mb H A h xs sn rej cj)(l:xs.length<=10)(m:aB 0 n=true)(q:(∀x∈xs,jJ x)->Q (.bool true) H)(u:¬(∀x∈xs,jJ x)->Q (.bool false) H):aZ af w K n 864 [.ref A.gl] H Q X:=by
 erw[R.AK.to rfl m,(n m)];have C:=M.g;have h6:(A.gv rej cj).length<=100000:=dc rfl;have I:(aT (A.tr.map (·.p))).length=xs.length:=by rewrite[bG,aq];refine' aj M.BL.length ?_;rfl
 erw[Zt,Zah rfl,ZN,Za,ZK,Zf rfl rfl,ax C h6 rfl];unfold tj;dsimp only;erw[aj M.g3,<-⟨lM I l rfl,pL (λb j k=>k=H/\∃t2 f a,b=aT (t2.map (·.p))/\f++a=xs/\i_ H t2 a/\j.length<=f.length/\((∀x∈f,jJ x) ↔ j=[])) _ _ ⟨rfl,A.tr,[],xs,rfl,rfl,M.BL,qQ,⟨λ_=>rfl,λ_ _ h=>nomatch h⟩⟩ (λj k=>gr λe=>(zD · λt2 f a e1 e2 e3 e4 e5=>?_)) λv b j k=>gr λe=>(zD · λt2 f a e1 e2 e3 e4 e5 G F E=>?_)⟩]
 ·replace e:=e.symm;subst e;have:t2=[]:=by
   induction t2 using lcs with
   |nil=>rfl
   |cons=>injection e1
  subst this;have:a=[]:=by
   induction a using lcs with
   |nil=>rfl
   |cons=>exact e3.elim
  subst this;rw[bb] at e2;replace e2:=e2.symm;subst e2;erw[(c o),Zb,dW us (dM (aF e4 l) rfl),<-cq (λh0=>?_) (λh0=>?_)]
  ·erw[<-bH (Ext.fresh Ext.refl o) (q (e5.mpr ?_)),<-Fn.mp (Uv h0)]
  ·erw[<-bH (Ext.fresh Ext.refl o) (u λz=>h0 ?_),aj (e5.mp z)];rfl
 ·subst e
  induction t2 using lcs with
  |nil=>injection e1
  |cons t t2=>
   induction a using lcs with
   |nil=>exact e3.elim
   |cons x a=>
    injection e1 with e1 e6
    subst e1;subst e6;have i:=e3.1.p;have s:=e3.1.r;have h4:x.vs.length<=100000:=dc rfl;have d:jJ x->G false k:=λB=>F _ M.g3 ⟨rfl,t2,f++[x],a,rfl,by erw[c_ e2];rewrite[aC];rfl,e3.2,by rewrite[ah,aW];exact U8 e4,by
     rw[<-e5];refine⟨λz y hy=>z y (JN _ hy),λz y hy=>?_⟩;rcases cC.mp hy with hy|hy
     ·exact z y hy
     ·erw[aj (aR.mp hy)];exact B⟩
    erw[ZR,Zn,Zy rfl,Zo rfl,Zf rfl rfl,ax i (dc rfl) rfl,ax s h4 rfl,<-wF (λh0=>?_) (λh0=>?_)]
    ·erw[Z2,<-d (.inl h0)]
    ·erw[Zp,Zn,Zy rfl,Zo rfl,Zf rfl rfl,ax i (dc rfl) rfl,ax s h4 rfl,<-wF (λh1=>?_) (λh1=>?_)]
     ·erw[Z2,<-d (.inr h1)]
     ·erw[Zao,ZD,E _,(J D),Zc rfl,<-D _ _ M.g3 ⟨rfl,t2,f++[x],a,rfl,by erw[c_ e2];rewrite[aC];rfl,e3.2,by rewrite[ah,ah,aW,aW];exact Ry e4,⟨λz=>absurd (z x (by simp)) (λz=>z.elim h0 h1),λz=>?_⟩⟩];have:=congrArg cF z;rw[ah,aW] at this;exact absurd this (by exact Wb)
end
section
variable{G:Hp}
theorem A2.Pf(h:A2 H H' me v s):EI H' v s:=by
 induction h using A2.casesOn with
 |none=>exact EI.none
 |some _ k _=>exact EI.some k
theorem qG(R:Rd af w K)(o:um h xs sn cj)(b:aB 8 n=true)(q:(∀x∈xs,jJ x)->Q (CD h xs sn rej cj) H)(i:¬(∀x∈xs,jJ x)->Q .none H):aZ af w K n 871 [.bytes (xB h xs sn rej cj)] H Q X:=by
 erw[R.rO.to rfl b,(n b)];have m:=zU (rej:=rej) o;erw[ZV,Zt,Zm,Zz rfl,<-ow R o.big o.Hx o.zx (λs c=>Sn.gI (o.so s c)) (dM m rfl) (lv b rfl) (λd r k J p v x f e P D g j=>?_) (λd=>⟨rfl,λl=>bH Ext.refl (i d)⟩)];have a:=e;unfold dE at a;erw[<-fy a ⟨rfl,?_⟩,Zb,bt a rfl,zC R e P D g.Pf o.len (λs c=>(o.so s c).ids) (lv b rfl),<-bH x (q d)]
theorem jw(h:∀v∈vs,plain k v=true):plain (k+1) (.tup vs)=true:=cJ.mpr h
theorem Mq(k:Nat)(l:List Int):∀v∈iv l,plain (k+1) v=true:=λv h=>by
 erw[ay (cK.mp h),(i _ e)];subst e;rfl
theorem aL{P:α->Prop}(h:P x)(k:∀y∈l,P y):∀y∈x::l,P y:=λy hy=>by
 rcases bE.mp hy with e|hy
 ·erw[aj e,<-h]
 ·exact k y hy
theorem fL{P:α->Prop}:∀y∈([]:List α),P y:=λ_ h=>nomatch h
theorem NJ(a:Option Sn):plain 8 (Gy a)=true:=by
 induction a using tU with
 |none=>rfl
 |some s=>exact jw (aL rfl (aL rfl (aL (jw (aL (jw (Mq 4 _)) (aL rfl (aL rfl (aL rfl (aL rfl fL)))))) (aL rfl fL))))
theorem Jz(h:Nat->Int)(xs:List En)(s:Option Sn)(rej:Bool)(c:List UInt8):∃vs,CD h xs s rej c=.tup vs/\plain 9 (.tup vs)=true:=by
 erw[<-⟨_,rfl,jw (aL rfl (aL rfl (aL rfl (aL rfl (aL rfl (aL rfl (aL (jw λv a=>?_) (aL rfl (aL (NJ s) (aL rfl (aL rfl (aL rfl fL))))))))))))⟩,ay (cK.mp a),(x _ i)];subst i;rfl
theorem sN(R:Rd af w K)(M:Mb H A h xs sn rej cj)(o:um h xs sn cj)(a:aB 9 n=true)(q:Q (.bool true) H):aZ af w K n 878 [.ref A.gl] H Q X:=by
 erw[R.HH.to rfl a,(n a)];have e:=M.g;have c:=M.m;have h6:(A.gv rej cj).length<=100000:=dc rfl;have i:=λs j=>(o.so s j).ids;erw[ay (Jz h xs sn rej cj),(v f p)];have b:=c;unfold dE at b;erw[Zg,Zz rfl,O7 R M o.len i (lv a rfl),Zg,Zz rfl,tc R M o (lv a rfl),Zh,ZT,Zn,Zy rfl,Zm,Zf rfl rfl,ax e h6 rfl,bC b rfl,Zb,bt b rfl,zC R c M.me M.BL.OU M.sn.Pf o.len i (lv a rfl),aj f,Hm p,ZM,Zn,Zy rfl,Zq,Za,Zf rfl rfl,ax e h6 rfl,Zb,<-fW R c M.me M.BL.OU M.sn.Pf o.big (lv a rfl) (λ_=>?_) (λz=>absurd o.Hx z),pX,ZM,ZD,Zi,Ze,Zd,Zh,Zab rfl,<-yM R M o.len (lv a rfl) (λd=>?_) (λd=>?_)]
 ·erw[Zx,Zp,Zt,Zah rfl,Zz rfl,<-qG R o (lv a rfl) (λ_=>?_) (λz=>absurd d z),aj f,KI p,<-bH Ext.refl q]
 ·erw[Zx,Zi,Ze,Zd,Zt,Zac,Zz rfl,<-qG R o (lv a rfl) (λz=>absurd z d) (λ_=>?_),lg rfl,<-bH Ext.refl q]
noncomputable def hY(h:Nat->Int)(f:Nat)(v:Int):Nat->Int:=λj=>if j=f then v else h j
theorem NV(R:Rd af w K){A:CB}(e:f<=7)(d:H A.gl=some (.list (A.gv rej cj)))(a:H A.m=some (dE h' me v' rR ctx'))(b:H A.nu=some (.list (hl h)))(g:A.gl≠A.nu)(c:aB 0 n=true)(q:Q .none (upd (upd H A.nu (.list (hl (hY h f v)))) A.m (dE (hY h' f v) me v' rR ctx'))):aZ af w K n 885 [.ref A.gl,.int (f:Int),.int v] H Q X:=by
 erw[R.QQ.to rfl c,(n c)];have h6:(A.gv rej cj).length<=100000:=dc rfl;have h8:(hl h).length<=100000:=dc rfl;have G:=λy=>ae (mo:=y) g d;have nm:=fU a b (λz=>by injection z);unfold dE at a;erw[ZJ,Zc rfl,Zf rfl rfl,ax d h6 rfl,Zc rfl,jc b h8 gV (by exact aU.mpr (dK [(av,zn 7)] (zs av,zn 8) rt e))];rw[aM];revert q;refine Y0 (gp e) ?_ ?_ ?_ ?_ ?_ ?_ ?_ ?_
 ·erw[(q),Zh,Zj rfl rfl,<-cq (λ_=>?_) (λz=>absurd rfl z),Zp,Zu,Zc rfl,Zf rfl rfl,ax (G _) h6 rfl,bQ (ae nm a) rfl rfl,Ze,Zd,Ze,<-cR Ext.refl q]
 ·erw[(q),Zh,Zj rfl rfl,d_ rfl,Zi,Zh,Zj rfl rfl,<-cq (λ_=>?_) (λz=>absurd rfl z),Zp,Zu,Zc rfl,Zf rfl rfl,ax (G _) h6 rfl,bQ (ae nm a) rfl rfl,Ze,Zd,Ze,Zd,Ze,<-cR Ext.refl q]
 ·erw[(q),Zh,Zj rfl rfl,d_ rfl,Zi,Zh,Zj rfl rfl,d_ rfl,Zi,Zh,Zj rfl rfl,<-cq (λ_=>?_) (λz=>absurd rfl z),Zp,Zu,Zc rfl,Zf rfl rfl,ax (G _) h6 rfl,bQ (ae nm a) rfl rfl,Ze,Zd,Ze,Zd,Ze,Zd,Ze,<-cR Ext.refl q]
 ·erw[(q),Zh,Zj rfl rfl,d_ rfl,Zi,Zh,Zj rfl rfl,d_ rfl,Zi,Zh,Zj rfl rfl,d_ rfl,Zi,Zh,Zj rfl rfl,<-cq (λ_=>?_) (λz=>absurd rfl z),Zp,Zu,Zc rfl,Zf rfl rfl,ax (G _) h6 rfl,bQ (ae nm a) rfl rfl,Ze,Zd,Ze,Zd,Ze,Zd,Ze,Zd,Ze,<-cR Ext.refl q]
 ·erw[(q),Zh,Zj rfl rfl,d_ rfl,Zi,Zh,Zj rfl rfl,d_ rfl,Zi,Zh,Zj rfl rfl,d_ rfl,Zi,Zh,Zj rfl rfl,d_ rfl,Zi,Zh,Zj rfl rfl,<-cq (λ_=>?_) (λz=>absurd rfl z),Zp,Zu,Zc rfl,Zf rfl rfl,ax (G _) h6 rfl,bQ (ae nm a) rfl rfl,Ze,Zd,Ze,Zd,Ze,Zd,Ze,Zd,Ze,Zd,Ze,<-cR Ext.refl q]
 ·erw[(q),Zh,Zj rfl rfl,d_ rfl,Zi,Zh,Zj rfl rfl,d_ rfl,Zi,Zh,Zj rfl rfl,d_ rfl,Zi,Zh,Zj rfl rfl,d_ rfl,Zi,Zh,Zj rfl rfl,d_ rfl,Zi,Zh,Zj rfl rfl,<-cq (λ_=>?_) (λz=>absurd rfl z),Zp,Zu,Zc rfl,Zf rfl rfl,ax (G _) h6 rfl,bQ (ae nm a) rfl rfl,Ze,Zd,Ze,Zd,Ze,Zd,Ze,Zd,Ze,Zd,Ze,Zd,Ze,<-cR Ext.refl q]
 ·erw[(q),Zh,Zj rfl rfl,d_ rfl,Zi,Zh,Zj rfl rfl,d_ rfl,Zi,Zh,Zj rfl rfl,d_ rfl,Zi,Zh,Zj rfl rfl,d_ rfl,Zi,Zh,Zj rfl rfl,d_ rfl,Zi,Zh,Zj rfl rfl,d_ rfl,Zi,Zh,Zj rfl rfl,<-cq (λ_=>?_) (λz=>absurd rfl z),Zp,Zu,Zc rfl,Zf rfl rfl,ax (G _) h6 rfl,bQ (ae nm a) rfl rfl,Ze,Zd,Ze,Zd,Ze,Zd,Ze,Zd,Ze,Zd,Ze,Zd,Ze,Zd,Ze,<-cR Ext.refl q]
 ·erw[(q),Zh,Zj rfl rfl,d_ rfl,Zi,Zh,Zj rfl rfl,d_ rfl,Zi,Zh,Zj rfl rfl,d_ rfl,Zi,Zh,Zj rfl rfl,d_ rfl,Zi,Zh,Zj rfl rfl,d_ rfl,Zi,Zh,Zj rfl rfl,d_ rfl,Zi,Zh,Zj rfl rfl,d_ rfl,Zi,Zu,Zc rfl,Zf rfl rfl,ax (G _) h6 rfl,bQ (ae nm a) rfl rfl,Ze,Zd,Ze,Zd,Ze,Zd,Ze,Zd,Ze,Zd,Ze,Zd,Ze,Zd,Ze,<-cR Ext.refl q]
end
section
variable{G:Hp}
noncomputable def CB.zO(A:CB)(z:Option xY):CB:={A with sa:=z}
theorem La(R:Rd af w K){A:CB}{sl s2:Addr}(V:H A.gl=some (.list (A.gv rej cj)))(U:H A.m=some (dE h A.me (yR A.sa) rej cj))(hs:H sl=some (.list (s.vs s2)))(DM:H s2=some (.list (iv s.ids)))(I:xh s.ids)(n1:sl≠A.gl)(n2:s2≠A.gl)(B:aB 2 n=true)(q:∀r a C,(∀b mo,b≠A.gl->b≠A.m->H b=some mo->r b=some mo)->X2 H a C->r A.gl=some (.list ((A.zO (some ⟨sl,s2,a,C⟩)).gv rej cj))->r A.m=some (dE h A.me (.ref a) rej cj)->Br r a C s->Q .none r):aZ af w K n 892 [.ref A.gl,.ref sl] H Q X:=by
 erw[R.Hk.to rfl B,(n B)];have h6:(A.gv rej cj).length<=100000:=dc rfl;have h5:(s.vs s2).length<=100000:=dc rfl;have nm:=fU U V (λz=>by injection z);erw[ZJ,Zc rfl,Zc rfl,ZA,jc V h6 (dc rfl) (dc rfl)];generalize f:upd H A.gl _=H1;have g1:H1 A.gl=some (.list [.ref A.m,.ref A.nu,.bool rej,.ref A.g3,.ref sl,.bytes cj]):=by refine' c_ f ?_;exact us
 have y:∀b mo,b≠A.gl->H b=some mo->H1 b=some mo:=λb mo N g=>by refine' c_ f ?_;exact ae N g
 have f1:∀b,H1 b=none->H b=none:=λb g=>by
  rw[<-f] at g;exact(bo g).1
 have s1:=y _ _ n1 hs;have E:=y _ _ n2 DM;have m1:=y _ _ nm U;erw[Zu,ZQ,Za,Zf rfl rfl,ax s1 h5 rfl,Za,Zf rfl rfl,ax s1 h5 rfl,Za,ZQ,Za,Zf rfl rfl,ax s1 h5 rfl,Za,eR rfl,Zb,(l hl)];have S:∀L,Ext H1 (upd H1 l L):=λL=>Ext.fresh Ext.refl hl;erw[Za,eR rfl,Zb,(o T)];have P:∀L j,Ext H1 (upd (upd H1 l L) o j):=λL j=>Ext.fresh (S L) (aI (S _) T);have J:=(bo T).2;erw[Za,eR rfl,Zb,(m e)];have x:∀L j p,Ext H1 (upd (upd (upd H1 l L) o j) m p):=λL j p=>Ext.fresh (P L j) (aI (P _ _) e);have F:=(bo e).2;have G:=(bo (bo e).1).2;erw[Za,Zf rfl rfl,ax (x _ _ _ _ _ s1) h5 rfl,Zb,(c hc),<-qg R I hc (x _ _ _ _ _ E) (ae (aJ G) (ae (aJ J) us)) (ae (aJ F) us) us (lv B rfl) λY C e4 x4 k c4=>⟨rfl,?_⟩];subst e4;have u:=(x _ _ _).trans x4;erw[Za,Zf rfl rfl,ax (u _ _ s1) h5 rfl,Zb,(a O),<-qo R (lv B rfl) ⟨rfl,?_⟩];have D:Ext H1 (upd Y a (.inst 533 [(1,.int s.i),(0,.int s.t),(11,.ref C.c),(3,.bytes s.d)])):=Ext.fresh u (aI u O);have m6:=D _ _ m1;have W:=D _ _ g1;unfold dE at m6;erw[Zf rfl rfl,ax W (dc rfl) rfl,bQ m6 rfl rfl,Ze];have up1:∀{b},H1 b=none->H b=none:=λh=>f1 _ h;have sh:Br (upd Y a (.inst 533 [(1,.int s.i),(0,.int s.t),(11,.ref C.c),(3,.bytes s.d)])) a C s:=⟨us,c4.ext (Ext.fresh Ext.refl O)⟩;refine cR Ext.refl (q _ a C (λb mo N M g=>ae M (D _ _ (y b mo N g))) ⟨up1 (aI u O),up1 (aI (x _ _ _) k.c),up1 (aI (x _ _ _) k.v),up1 (aI (x _ _ _) k.l),up1 (aI (x _ _ _) k.o),up1 (aI (x _ _ _) k.n)⟩ (ae (aJ nm) W) us (sh.set m6))
structure KbA where
 kl:Addr
 cm:Addr
 kr:Addr
structure Kb(H:Hp)(A:KbA)(z:Cm):Prop where
 k:H A.kl=some (.list [.ref A.cm,.ref A.kr])
 c:H A.cm=some z.o
 r:H A.kr=some (.list z.vs)
theorem Kb.ext{c:Cm}(e:Ext H H')(x:Kb H A c):Kb H' A c:=⟨e _ _ x.k,e _ _ x.c,e _ _ x.r⟩
structure Cm.Good(c:Cm):Prop where
 b:c.AN
 i:c.In
theorem yJ(R:Rd af w K){c:Cm}(h:H r=some (.list c.vs))(g:c.Good)(a:aB 2 n=true)(q:Q (.bytes c.oct) H):aZ af w K n 906 [.ref r] H Q X:=by
 erw[R.BU.to rfl a,(n a)];have h6:c.vs.length<=100000:=dc rfl;have p:rG c.k:=⟨g.i.k0,by have:=g.i.k6;exact Th this⟩;have d:=eJ p;have v:=eJ g.i.c;have e:=eJ g.i.n;have l:=g.b.key;have j:=g.b.val;have x:=fR 9 _ (aK l (dc rfl));have u:=fR 9 _ (aK j (dc rfl));have t4:(tx c.key).length<=210:=by unfold tx;refine' aj ah ?_;exact Oq x l rfl
 have t5:(tx c.val).length<=210:=by unfold tx;refine' aj ah ?_;exact Oq u j rfl
 erw[Zg,ZC,ZC,ZC,ZC,Zq,Za,Zf rfl rfl,ax h h6 rfl,Zb,jP R p (lv a rfl),Zq,Za,Zf rfl rfl,ax h h6 rfl,Zb,jP R g.i.c (lv a rfl),fM (Oq d v rfl),Zq,Za,Zf rfl rfl,ax h h6 rfl,Zb,jP R g.i.n (lv a rfl),fM (aj ah (V4 d v e)),Zq,Za,Zf rfl rfl,ax h h6 rfl,Zb,jU R (dM l rfl) (lv a rfl),fM (by simp only[ah];exact yj [(av,zn 10),(aX,zn 10),(bT,zn 10),(gi,zn 210)] (zp (zp (zp av aX) bT) gi,zn 1000000) rt d v e t4),Zq,Za,Zf rfl rfl,ax h h6 rfl,Zb,jU R (dM j rfl) (lv a rfl),fM (by simp only[ah];exact Qh [(av,zn 10),(aX,zn 10),(bT,zn 10),(gi,zn 210),(r_,zn 210)] (zp (zp (zp (zp av aX) bT) gi) r_,zn 1000000) rt d v e t4 t5),Zh,ZS,Zf rfl rfl,ax h h6 rfl];have q:=q;unfold Cm.oct at q;have f:=g.b.ex;have o:=h;unfold Cm.vs at o;generalize s:c.ex=ex at q f o
 induction ex using tU with
 |none=>
  erw[lg rfl,Zp,Zt,Zs rfl rfl,fM (by simp only[ah];exact VZ d v e t4 t5),<-bH Ext.refl q]
 |some b=>
  have m:=f b rfl;have t:=fR 9 _ (aK m (dc rfl));have t6:(tx b).length<=210:=by unfold tx;refine' aj ah ?_;exact Oq t m rfl
  erw[lg rfl,Zi,Ze,Zd,Zt,ZC,Zs rfl rfl,fM (by simp only[ah];exact VZ d v e t4 t5),Zq,Za,Zf rfl rfl,ax o (dc rfl) rfl,Zb,jU R (dM m rfl) (lv a rfl),fM (by simp only[ah];exact UY [(av,zn 10),(aX,zn 10),(bT,zn 10),(gi,zn 210),(r_,zn 210),(ED,zn 210)] (zp (zs (zp (zp (zp (zp av aX) bT) gi) r_)) ED,zn 1000000) rt d v e t4 t5 t6),aj (aC _ [1] _),<-bH Ext.refl q]
theorem Ei(c:Cm):plain 9 (.tup c.vs)=true:=by
 refine jw (aL rfl (aL rfl (aL rfl (aL rfl (aL rfl (aL ?_ fL))))));cases c.ex<;>rfl
theorem EK(R:Rd af w K)(M:Kb H A c)(g:c.Good)(a:aB 6 n=true)(q:Q (.bool true) H):aZ af w K n 913 [.ref A.kl] H Q X:=by
 erw[R.HG.to rfl a,(n a)];have e:=M.k;have j:=M.c;have hr:=M.r;have h2:([V.ref A.cm,.ref A.kr]).length<=100000:=dc rfl;have h6:c.vs.length<=1000:=dc rfl;have h:=j;unfold Cm.o at h;erw[Zg,Zq,Za,Zf rfl rfl,ax e h2 rfl,Zb,yJ R hr g (lv a rfl),Zh,ZT,Zn,Zy rfl,Zm,Zf rfl rfl,ax e h2 rfl,bC h rfl,Zb,bt h rfl,<-kU R j g.b (lv a rfl) (λ_=>?_) (λz=>absurd g.i z),pX,ZM,Zn,ZH,Zm,Zf rfl rfl,ax e h2 rfl,bC h rfl,Zb,bt h rfl,AV R j (lv a rfl),ZL,Za,Zf rfl rfl,ax e h2 rfl,Zb,gj hr (by assumption),Hm (Ei c),ZM,ZD,Zi,Ze,Zd,Zt,Zad,Zm,Zz rfl,oh R g.b g.i (lv a rfl),(d l)];have f:(upd H d c.o) d=some (.inst 627 [(2,.int c.k),(21,.int c.c),(22,.int c.n),(23,.bytes c.key),(24,.bytes c.val),(25,Sl c.ex)]):=us;have m:Ext H (upd H d c.o):=Ext.fresh Ext.refl l;erw[<-fy f ⟨rfl,?_⟩,Zb,bt f rfl,AV R us (lv a rfl),ZL,Za,Zf rfl rfl,ax (m _ _ e) h2 rfl,Zb,gj (ae (ne_sn hr l) hr) (by assumption),KI (Ei c),<-bH m q]
theorem sE(R:Rd af w K){c:Cm}(h:H a=some c.o)(b:c.AN)(r:¬c.In)(d:aB 5 n=true)(q:Q (.bool true) H):aZ af w K n 920 [.ref a] H Q X:=by
 erw[R.oi.to rfl d,(n d)];have e:=h;unfold Cm.o at e;erw[ZV,Zk,Zm,Zc rfl,bC e rfl,Zb,bt e rfl,<-kU R h b (lv d rfl) (λz=>absurd z r) (λ_=>⟨rfl,λ_=>bH Ext.refl q⟩)]
end
structure Gh where
 R:Addr->Nat
 mt:Addr->Addr
 en:Addr->En
structure Cells(H:Hp)(g:Gh):Prop where
 ent:∀e,g.R e=1\/g.R e=4->H e=some (g.en e).o/\H (g.mt e)=some (.list (g.en e).vs)/\g.R (g.mt e)=g.R e+1/\g.mt (g.mt e)=e/\(g.en e).Good
 pr:∀p,g.R p=3->∃e,g.R e=1/\H p=some (.list [.ref e,.ref (g.mt e)])
theorem bX{R:Addr->Nat}(h:R a=i)(k:R b=j)(n:i≠j):a≠b:=λe=>by
 rw[e,k] at h;exact n h.symm
theorem Cells.pair(C:Cells H g)(h:g.R p=3):∃e,g.R e=1/\Pr H p e (g.mt e) (g.en e)/\(g.en e).Good:=by
 erw[ay (C.pr p h),(e f i),iE (C.ent e (.inl f)),(a b c d k),<-⟨e,f,⟨i,a,b⟩,k⟩]
structure bJ(s:Nat->Prop)(H:Hp)(g:Gh)(H':Hp)(g':Gh):Prop where
 r:∀a,s (g.R a)->g'.R a=g.R a
 m:∀a,s (g.R a)->g'.mt a=g.mt a
 h:∀a mo,s (g.R a)->H a=some mo->H' a=some mo
theorem bJ.sub(k:bJ s H g H' g')(i:∀n,t n->s n):bJ t H g H' g':=⟨λa h=>k.r a (i _ h),λa h=>k.m a (i _ h),λa b h=>k.h a b (i _ h)⟩
theorem bJ.ext(e:Ext H H'):bJ s H g H' g:=⟨λ_ _=>rfl,λ_ _=>rfl,λa m _ h=>e a m h⟩
theorem bJ.upd{s:Nat->Prop}{H:Hp}{g:Gh}{a:Addr}{y:MO}(n:¬s (g.R a)):bJ s H g (upd H a y) g:=⟨λ_ _=>rfl,λ_ _=>rfl,λb m h k=>ae (λe=>n (e▸h)) k⟩
theorem bJ.trans{H:Hp}(a:bJ s H g H' g')(b:bJ s H' g' cI g''):bJ s H g cI g'':=
 ⟨λx h=>(b.r x (aj (a.r x h) h)).trans (a.r x h),λx h=>(b.m x (aj (a.r x h) h)).trans (a.m x h),λx c h k=>b.h x c (aj (a.r x h) h) (a.h x c h k)⟩
structure Claim(H:Hp)(g:Gh):Prop where
 c:∀a,g.R a≠0->H a≠none
theorem Claim.fresh(C:Claim H g)(h:H a=none):g.R a=0:=by
 by_cases q:g.R a=0
 ·exact q
 ·exact absurd h (C.c a q)
theorem Claim.ext(C:Claim H g)(e:Ext H H'):Claim H' g:=⟨λa h q=>C.c a h (aI e q)⟩
theorem Claim.upd{H:Hp}{g:Gh}(C:Claim H g){a:Addr}{y:MO}:Claim (upd H a y) g:=⟨λb h q=>C.c b h (bo q).1⟩
structure lS(R:Addr->Nat)(b:Nat)(z:xY):Prop where
 sl:R z.sl=b+5
 s2:R z.s2=b+6
 a:R z.a=b+7
 c:R z.A.c=b+8
 v:R z.A.v=b+9
 l:R z.A.l=b+10
 o:R z.A.o=b+10
 n:R z.A.n=b+10
structure tZ(H:Hp)(g:Gh)(t:Tr):Prop where
 p:g.R t.p=3
 h:H t.p=some (.list [.ref t.e,.ref t.r])
 e:g.R t.e=1
 r:t.r=g.mt t.e
structure ja(H:Hp)(g:Gh)(b:Nat)(A:CB)(h:Nat->Int)(sn:Option Sn)(rej:Bool)(cj:List UInt8):Prop where
 hg:H A.gl=some (.list (A.gv rej cj))
 hm:H A.m=some (dE h A.me (yR A.sa) rej cj)
 hu:H A.nu=some (.list (hl h))
 h3:H A.g3=some (.list (aT (A.tr.map (·.p))))
 he:H A.me=some (.list (aT (A.tr.map (·.e))))
 ht:∀t∈A.tr,tZ H g t
 hs:tY H A.sa sn
 rg:g.R A.gl=b
 rm:g.R A.m=b+1
 Ff:g.R A.nu=b+2
 Jx:g.R A.g3=b+3
 GJ:g.R A.me=b+4
 rs:∀z,A.sa=some z->lS g.R b z
def oG(b n:Nat):Prop:=n=1\/n=3\/(b<=n/\n<=b+10)
theorem tY.keep(k:bJ s H g H' g')(i:∀n,b+5<=n->n<=b+10->s n):∀{z:Option xY} {d:Option Sn},(∀y,z=some y->lS g.R b y)->tY H z d->tY H' z d
 |none,none,_,_=>trivial
 |some z,some d,r,h=>by
  rcases r z rfl with⟨r1,r2,r3,r4,r5,r6,r7,r8⟩
  have f:∀a n m,g.R a=n->b+5<=n->n<=b+10->H a=some m->H' a=some m:=λa n m e l u q=>k.h a m (aj e (i n l u)) q;exact⟨f _ _ _ r1 qQ (vG rfl) h.sl,f _ _ _ r2 (vG rfl) (vG rfl) h.s2,⟨f _ _ _ r3 (vG rfl) (vG rfl) h.sn.o,⟨f _ _ _ r4 (vG rfl) (vG rfl) h.sn.co.c,f _ _ _ r5 (vG rfl) (vG rfl) h.sn.co.v,f _ _ _ r6 (vG rfl) qQ h.sn.co.l,f _ _ _ r7 (vG rfl) qQ h.sn.co.o,f _ _ _ r8 (vG rfl) qQ h.sn.co.n⟩⟩⟩
 |none,some _,_,h=>h.elim
 |some _,none,_,h=>h.elim
theorem lS.keep(k:bJ s H g H' g')(i:∀n,b<=n->n<=b+10->s n)(r:lS g.R b z):lS g'.R b z:=by
 rcases r with⟨r1,r2,r3,r4,r5,r6,r7,r8⟩
 have f:∀a n,g.R a=n->b<=n->n<=b+10->g'.R a=n:=λa n e l u=>(k.r a (aj e (i n l u))).trans e;exact⟨f _ _ r1 uX (vG rfl),f _ _ r2 uX (vG rfl),f _ _ r3 uX (vG rfl),f _ _ r4 uX (vG rfl),f _ _ r5 uX (vG rfl),f _ _ r6 uX qQ,f _ _ r7 uX qQ,f _ _ r8 uX qQ⟩
theorem tZ.keep(k:bJ s H g H' g')(s1:s 1)(s3:s 3)(x:tZ H g t):tZ H' g' t:=
 ⟨(k.r _ (aj x.p s3)).trans x.p,k.h _ _ (aj x.p s3) x.h,(k.r _ (aj x.e s1)).trans x.e,x.r.trans (k.m _ (aj x.e s1)).symm⟩
theorem ja.keep{H:Hp}(k:bJ (oG b) H g H' g')(x:ja H g b A h sn rej cj):ja H' g' b A h sn rej cj:=by
 have i:∀n,b<=n->n<=b+10->oG b n:=λn l u=>.inr (.inr ⟨l,u⟩);have f:∀a n,g.R a=n->b<=n->n<=b+10->g'.R a=n:=λa n e l u=>(k.r a (aj e (i n l u))).trans e;have c:∀a n m,g.R a=n->b<=n->n<=b+10->H a=some m->H' a=some m:=λa n m e l u q=>k.h a m (aj e (i n l u)) q;exact⟨c _ _ _ x.rg qQ uX x.hg,c _ _ _ x.rm uX (vG rfl) x.hm,c _ _ _ x.Ff uX (vG rfl) x.hu,c _ _ _ x.Jx uX (vG rfl) x.h3,c _ _ _ x.GJ uX (vG rfl) x.he,
  λt j=>(x.ht t j).keep k (.inl rfl) (.inr (.inl rfl)),x.hs.keep k (λn l u=>i n (Xx l) u) x.rs,f _ _ x.rg qQ uX,f _ _ x.rm uX (vG rfl),f _ _ x.Ff uX (vG rfl),f _ _ x.Jx uX (vG rfl),f _ _ x.GJ uX (vG rfl),λz d=>(x.rs z d).keep k i⟩
theorem GC{H:Hp}(C:Cells H g):∀{c:List Tr},(∀t∈c,tZ H g t)->i_ H c (c.map λt=>g.en t.e)
 |[],_=>trivial
 |t::c,h=>by
  have x:=h t kf;erw[cA (C.ent t.e (.inl x.e)),(a b _),<-⟨⟨x.h,a,by erw[aj x.r,<-b]⟩,GC C λt d=>h t (fV d)⟩]
theorem ja.mb(C:Cells H g)(x:ja H g b A h sn rej cj):Mb H A h (A.tr.map λt=>g.en t.e) sn rej cj:=
 ⟨x.hg,x.hm,x.hu,x.h3,x.he,GC C x.ht,x.hs⟩
structure jz(h:Nat->Int)(sn:Option Sn)(cj:List UInt8)(tr:List Tr)(t:Nat):Prop where
 hi:∀j,j<8->rG (h j)
 zx:h 0<=20
 len:tr.length<=5
 so:∀s,sn=some s->s.Ok/\s.ids≠[]/\s.ids.length<=t+1/\∀i∈s.ids,i<=200*(t+1)
 c:cj.length<=200
theorem jz.ok(C:Cells H g)(p:jz h sn cj tr t)(x:∀y∈tr,g.R y.e=1):um h (tr.map λt=>g.en t.e) sn cj:=
 ⟨p.hi,p.zx,λz a=>by
  erw[ay (cK.mp a),(y b f)];subst f;exact(C.ent _ (.inl (x y b))).2.2.2.2,by rw[aq];have:=p.len;exact dM this rfl,λs d=>(p.so s d).1,p.c⟩
structure gF(H:Hp)(g:Gh)(pl:Addr)(ts:List Tr):Prop where
 h:H pl=some (.list (aT (ts.map (·.p))))
 ne:ts≠[]
 len:ts.length<=5
 tr:∀t∈ts,tZ H g t
 r:g.R pl=6
theorem gF.keep{H:Hp}(k:bJ (λn=>n=1\/n=3\/n=6) H g H' g')(x:gF H g pl ts):gF H' g' pl ts:=
 ⟨k.h _ _ (.inr (.inr x.r)) x.h,x.ne,x.len,λt a=>(x.tr t a).keep k (.inl rfl) (.inr (.inl rfl)),(k.r _ (.inr (.inr x.r))).trans x.r⟩
structure HO(H:Hp)(g:Gh)(A:KbA)(c:Cm):Prop where
 kb:Kb H A c
 rk:g.R A.kl=11
 rc:g.R A.cm=12
 rr:g.R A.kr=13
theorem HO.keep(k:bJ (λn=>n=11\/n=12\/n=13) H g H' g')(x:HO H g A c):HO H' g' A c:=
 ⟨⟨k.h _ _ (.inl x.rk) x.kb.k,k.h _ _ (.inr (.inl x.rc)) x.kb.c,k.h _ _ (.inr (.inr x.rr)) x.kb.r⟩,(k.r _ (.inl x.rk)).trans x.rk,(k.r _ (.inr (.inl x.rc))).trans x.rc,(k.r _ (.inr (.inr x.rr))).trans x.rr⟩
structure WbA where
 wl:Addr
 u:Addr
 ue:Addr
 w2:Addr
structure I0(H:Hp)(g:Gh)(A:WbA)(off:Nat)(es:List Addr):Prop where
 hw:H A.wl=some (.list [.ref A.u,.int (off:Int),.ref A.w2])
 hu:H A.u=some (BK A.ue off)
 RU:H A.ue=some (.list (aT es))
 UQ:H A.w2=some (.list (aT (es.map g.mt)))
 DY:∀e∈es,g.R e=4
 nd:es.Nodup
 rw:g.R A.wl=7
 ru:g.R A.u=8
 rue:g.R A.ue=9
 rw2:g.R A.w2=10
def sW(n:Nat):Prop:=n=4\/(7<=n/\n<=10)
theorem I0.keep(k:bJ sW H g H' g')(x:I0 H g A off es):I0 H' g' A off es:=by
 have e1:=dR λe d=>k.m e (.inl (x.DY e d));have f:∀a n,g.R a=n->7<=n->n<=10->g'.R a=n:=λa n e l u=>(k.r a (aj e (.inr ⟨l,u⟩))).trans e;have c:∀a n b,g.R a=n->7<=n->n<=10->H a=some b->H' a=some b:=λa n b e l u q=>k.h a b (aj e (.inr ⟨l,u⟩)) q;erw[<-⟨c _ _ _ x.rw (dc rfl) (dc rfl) x.hw,c _ _ _ x.ru (dc rfl) (dc rfl) x.hu,c _ _ _ x.rue (dc rfl) (dc rfl) x.RU,?_,λe d=>(k.r e (.inl (x.DY e d))).trans (x.DY e d),x.nd,f _ _ x.rw (dc rfl) (dc rfl),f _ _ x.ru (dc rfl) (dc rfl),f _ _ x.rue (dc rfl) (dc rfl),f _ _ x.rw2 (dc rfl) (dc rfl)⟩,aj e1,<-c _ _ _ x.rw2 (dc rfl) (dc rfl) x.UQ]
structure WP(off:Nat)(es:List Addr)(t:Nat):Prop where
 lo:110<=off+t
 hi:off<=2^57+100*t
 len:es.length<=2*t
abbrev Nz:=Addr×List V
structure wG(H:Hp)(g:Gh)(nz:Nz):Prop where
 h:H nz.1=some (.list nz.2)
 r:g.R nz.1=14
theorem wG.keep(x:wG H g nz)(k:bJ (λn=>n=14) H g H' g'):wG H' g' nz:=⟨k.h _ _ x.r x.h,(k.r _ x.r).trans x.r⟩
structure Inv(nz:Nz)(pl ga ka wa:Addr)(t:Nat)(H:Hp)(g:Gh):Prop where
 cells:Cells H g
 claim:Claim H g
 y6:∃ts,gF H g pl ts
 msg:∃A h sn rej cj,A.gl=ga/\ja H g 20 A h sn rej cj/\jz h sn cj A.tr t
 cmd:∃A c,A.kl=ka/\HO H g A c/\c.Good
 wait:∃A off es,A.wl=wa/\I0 H g A off es/\WP off es t
 num:wG H g nz
theorem jz.up(p:jz h sn cj tr t):jz h sn cj tr (t+1):=
 ⟨p.hi,p.zx,p.len,λs e=>by erw[dY (p.so s e),(a b c d),<-⟨a,b,U8 c,λi f=>by have:=d i f;exact Wq this⟩],p.c⟩
theorem WP.up(p:WP off es t):WP off es (t+1):=⟨by have:=p.lo;exact VQ this,by have:=p.hi;exact VF this,by have:=p.len;exact fp [(av,zm 2 aX)] (av,zm 2 (zs aX)) rt this⟩
theorem Inv.up{H:Hp}(I:Inv nz pl ga ka wa t H g):Inv nz pl ga ka wa (t+1) H g:=by
 erw[iS I.msg,(A h s r c e m p),iD I.wait,(B o a b w q),<-⟨I.cells,I.claim,I.y6,⟨A,h,s,r,c,e,m,p.up⟩,I.cmd,⟨B,o,a,b,w,q.up⟩,I.num⟩]
theorem Cells.ext(C:Cells H g)(e:Ext H H'):Cells H' g:=
 ⟨λx h=>by erw[cA (C.ent x h),(a b c),<-⟨e _ _ a,e _ _ b,c⟩],λp d=>by erw[ay (C.pr p d),(x a b),<-⟨x,a,e _ _ b⟩]⟩
theorem Inv.ext{H:Hp}(I:Inv nz pl ga ka wa t H g)(e:Ext H H'):Inv nz pl ga ka wa t H' g:=by
 erw[iS I.msg,(A h s r d e1 m p),iD I.wait,(B o b e2 w q),dg I.cmd,(D c e3 k f),bf I.y6,(a P),<-⟨I.cells.ext e,I.claim.ext e,⟨a,P.keep (.ext e)⟩,⟨A,h,s,r,d,e1,m.keep (.ext e),p⟩,⟨D,c,e3,k.keep (.ext e),f⟩,⟨B,o,b,e2,w.keep (.ext e),q⟩,I.num.keep (.ext e)⟩]
noncomputable def Gh.put(g:Gh)(e:Addr)(x:En):Gh:={g with en:=λa=>if a=e then x else g.en a}
theorem Cells.put{H:Hp}(C:Cells H g)(f:g.R e=1\/g.R e=4)(t:x.Good):Cells (upd (upd H (g.mt e) (.list x.vs)) e x.o) (g.put e x):=by
 erw[iE (C.ent e f),(D B a y A)];have P:=bX rfl a Yd;refine⟨λd h=>?_,λp m=>?_⟩
 ·have h:g.R d=1\/g.R d=4:=h;erw[iE (C.ent d h),(w v k j u)]
  by_cases q:d=e
  ·subst q;have i:(g.put d x).en d=x:=if_pos rfl;erw[aj i,<-⟨us,ae (aJ P) us,k,j,t⟩]
  ·have i:(g.put e x).en d=g.en d:=if_neg q;erw[aj i];have s:d≠g.mt e:=λz=>by rw[z,a] at h;lia
   have r:g.mt d≠g.mt e:=λz=>q (c_ j (aj z (aj y rfl)));have n:g.mt d≠e:=λz=>by rw[z] at k;lia
   exact⟨ae q (ae s w),ae n (ae r v),k,j,u⟩
 ·erw[ay (C.pr p m),(d h c)];have Q:=m;exact⟨d,h,ae (λz=>by rw[z] at Q;exact f.elim (λb=>cH [(zn 3,av),(av,zn 1)] rt (aa (ao Q)) (aa b)) (λb=>cH [(av,zn 3),(zn 4,av)] rt (aa Q) (aa (ao b)))) (ae (λz=>by rw[z] at Q;exact f.elim (λl=>FQ [(zn 3,av),(av,zs aX),(aX,zn 1)] rt (aa (ao Q)) (aa a) (aa l)) (λl=>FQ [(av,zn 3),(zs aX,av),(zn 4,aX)] rt (aa Q) (aa (ao a)) (aa (ao l)))) c)⟩
theorem bJ.put{H:Hp}(b:¬s (g.R e))(n:¬s (g.R (g.mt e))):bJ s H g (Mine.upd (Mine.upd H (g.mt e) y) e z) (g.put e x):=
 ⟨λ_ _=>rfl,λ_ _=>rfl,λa m h k=>ae (λq=>b (q▸h)) (ae (λq=>n (q▸h)) k)⟩
theorem Inv.put{H:Hp}(I:Inv nz pl ga ka wa t H g)(d:g.R e=1)(J:x.Good):Inv nz pl ga ka wa t (upd (upd H (g.mt e) (.list x.vs)) e x.o) (g.put e x):=by
 erw[iS I.msg,(A h F s L e1 m p),iD I.wait,(B v K e2 w q),dg I.cmd,(D c e3 k M)];have f:g.R (g.mt e)=2:=by have:=(I.cells.ent e (.inl d)).2.2.1;exact WY d this
 erw[bf I.y6,(E P)];have C:bJ (λn=>n=3\/n=6) H g (upd (upd H (g.mt e) (.list x.vs)) e x.o) (g.put e x):=.put (aj d (dc rfl)) (aj f (dc rfl));refine⟨I.cells.put (.inl d) J,⟨λa G=>(I.claim.upd.upd).c a G⟩,⟨E,C.h _ _ (.inr P.r) P.h,P.ne,P.len,λy b=>⟨(P.tr y b).p,C.h _ _ (.inl (P.tr y b).p) (P.tr y b).h,(P.tr y b).e,(P.tr y b).r⟩,P.r⟩,⟨A,h,F,s,L,e1,?_,p⟩,⟨D,c,e3,k.keep (.put (aj d (dc rfl)) (aj f (dc rfl))),M⟩,⟨B,v,K,e2,w.keep (.put (by erw[aj d];unfold sW;decide) (by erw[aj f];unfold sW;decide)),q⟩,I.num.keep (.put (aj d (dc rfl)) (aj f (dc rfl)))⟩;rcases m with⟨m1,m2,m3,m4,m5,m6,m7,m8,m9,QW,QH,QL,Qt⟩
 have z:bJ (λn=>n=3\/(20<=n/\n<=20+10)) H g (upd (upd H (g.mt e) (.list x.vs)) e x.o) (g.put e x):=.put (aj d (dc rfl)) (aj f (dc rfl));have i:∀a n j,g.R a=n->20<=n->n<=30->H a=some j->(upd (upd H (g.mt e) (.list x.vs)) e x.o) a=some j:=λa n j e l u q=>z.h a j (.inr (⟨fp [(zn 20,av),(av,aX)] (zn 20,aX) rt l (aa (ao e)),fp [(av,zn 30),(aX,av)] (aX,zk (zn 20) 10) rt u (aa e)⟩)) q;exact⟨i _ _ _ m8 (dc rfl) (dc rfl) m1,i _ _ _ m9 (dc rfl) (dc rfl) m2,i _ _ _ QW (dc rfl) (dc rfl) m3,i _ _ _ QH (dc rfl) (dc rfl) m4,i _ _ _ QL (dc rfl) (dc rfl) m5,λy b=>⟨(m6 y b).p,z.h _ _ (.inl (m6 y b).p) (m6 y b).h,(m6 y b).e,(m6 y b).r⟩,m7.keep z (λn l u=>.inr ⟨dK [(zk (zn 20) 5,av)] (zn 20,av) rt l,u⟩) Qt,m8,m9,QW,QH,QL,Qt⟩
noncomputable def Gh.twin(g:Gh)(t:Tr)(x:En):Gh:=
 ⟨λa=>if a=t.p then 3 else if a=t.e then 1 else if a=t.r then 2 else g.R a,λa=>if a=t.e then t.r else if a=t.r then t.e else g.mt a,λa=>if a=t.e then x else g.en a⟩
structure Fr(H:Hp)(t:Tr):Prop where
 p:H t.p=none
 e:H t.e=none
 r:H t.r=none
theorem Pr.ne{p e r:Addr}(h:Pr H p e r x):p≠e/\p≠r/\e≠r:=⟨fU h.p h.e (λz=>by injection z),fU h.p h.r (λz=>by cases z),fU h.e h.r (λz=>by injection z)⟩
structure Fz(g:Gh)(t:Tr):Prop where
 p:g.R t.p=0
 e:g.R t.e=0
 r:g.R t.r=0
theorem Fr.z(f:Fr H t)(C:Claim H g):Fz g t:=⟨C.fresh f.p,C.fresh f.e,C.fresh f.r⟩
theorem bJ.qO(f:Fz g t)(e:Ext H H')(s0:¬s 0):bJ s H g H' (g.twin t x):=by
 have z:∀a,s (g.R a)->a≠t.p/\a≠t.e/\a≠t.r:=λa h=>⟨λq=>s0 (c_ f.p (c_ q h)),λq=>s0 (c_ f.e (c_ q h)),λq=>s0 (c_ f.r (c_ q h))⟩;refine⟨λa h=>?_,λa h=>?_,λa m _ h=>e a m h⟩
 ·erw[cA (z a h),(d c b)];show(if a=t.p then 3 else if a=t.e then 1 else if a=t.r then 2 else g.R a)=g.R a;erw[aj (if_neg d),aj (if_neg c),aj (if_neg b)];rfl
 ·erw[cA (z a h),(d c b)];show(if a=t.e then t.r else if a=t.r then t.e else g.mt a)=g.mt a;erw[aj (if_neg c),aj (if_neg b)];rfl
theorem bJ.twin{H:Hp}(C:Claim H g)(f:Fr H t)(e:Ext H H')(s0:¬s 0):bJ s H g H' (g.twin t x):=.qO (f.z C) e s0
theorem Nj{g:Gh}(n:t.p≠t.e/\t.p≠t.r/\t.e≠t.r):(g.twin t x).R t.p=3/\(g.twin t x).R t.e=1/\(g.twin t x).R t.r=2/\(g.twin t x).mt t.e=t.r/\(g.twin t x).mt t.r=t.e/\(g.twin t x).en t.e=x:=by
 erw[cA n,(c b a),<-⟨if_pos rfl,?_,?_,if_pos rfl,?_,if_pos rfl⟩]
 ·show(if t.e=t.p then 3 else if t.e=t.e then 1 else _)=1;erw[aj (if_neg (aJ c)),aj (if_pos rfl)];rfl
 ·show(if t.r=t.p then 3 else if t.r=t.e then 1 else if t.r=t.r then 2 else _)=2;erw[aj (if_neg (aJ b)),aj (if_neg (aJ a)),aj (if_pos rfl)];rfl
 ·show(if t.r=t.e then t.r else if t.r=t.r then t.e else _)=t.e;erw[aj (if_neg (aJ a)),aj (if_pos rfl)];rfl
theorem Cells.twin{H:Hp}(C:Cells H g)(f:Fz g t)(e:Ext H H')(h:Pr H' t.p t.e t.r x)(I:x.Good):Cells H' (g.twin t x):=by
 erw[GA (Nj (g:=g) (x:=x) h.ne),(F o l w E B)];have k:bJ (λn=>n≠0) H g H' (g.twin t x):=.qO f e (λh=>h rfl);have c:∀a,a≠t.p->a≠t.e->a≠t.r->(g.twin t x).R a=g.R a:=λa Q P O=>by
  show(if a=t.p then 3 else if a=t.e then 1 else if a=t.r then 2 else g.R a)=g.R a;erw[aj (if_neg Q),aj (if_neg P),aj (if_neg O)];rfl
 refine⟨λd b=>?_,λp i=>?_⟩
 ·by_cases q:d=t.e
  ·subst q;erw[aj B,aj w,aj o,aj l,aj E,<-⟨h.e,h.r,rfl,rfl,I⟩]
  ·have u:d≠t.p:=λz=>by rw[z,F] at b;exact b.elim (λD=>DE [(zn 3,zn 1)] rt (aa D)) (λD=>DE [(zn 4,zn 3)] rt (aa (ao D)))
   have s:d≠t.r:=λz=>by rw[z,l] at b;exact b.elim (λG=>DE [(zn 2,zn 1)] rt (aa G)) (λG=>DE [(zn 4,zn 2)] rt (aa (ao G)))
   rw[c d u q s] at b;erw[iE (C.ent d b),(N M A L K)];have j:g.R d≠0:=by exact WV b
   have y:g.R (g.mt d)≠0:=by exact WM A
   have J:(g.twin t x).en d=g.en d:=if_neg q;erw[aj (k.m d j),aj (k.r d j),aj (k.r _ y),aj (k.m _ y),aj J,<-⟨e _ _ N,e _ _ M,A,L,K⟩]
 ·by_cases q:p=t.p
  ·subst q;exact⟨t.e,o,by erw[aj w,<-h.p]⟩
  ·have u:p≠t.e:=λz=>by rw[z,o] at i;exact DE [(zn 3,zn 1)] rt (aa (ao i))
   have s:p≠t.r:=λz=>by rw[z,l] at i;exact DE [(zn 3,zn 2)] rt (aa (ao i))
   rw[c p q u s] at i;erw[ay (C.pr p i),(d b v)];have j:g.R d≠0:=by exact TF b rfl
   exact⟨d,(k.r d j).trans b,by erw[aj (k.m d j),<-e _ _ v]⟩
theorem Claim.twin{H:Hp}(K:Claim H g)(e:Ext H H')(h:Pr H' t.p t.e t.r x):Claim H' (g.twin t x):=⟨λa i q=>by
 by_cases f:a=t.p
 ·rw[f,h.p] at q;injection q
 ·by_cases d:a=t.e
  ·rw[d,h.e] at q;injection q
  ·by_cases b:a=t.r
   ·rw[b,h.r] at q;injection q
   ·refine K.c a (λz=>i ?_) (aI e q);show(if a=t.p then 3 else if a=t.e then 1 else if a=t.r then 2 else g.R a)=0;erw[aj (if_neg f),aj (if_neg d),aj (if_neg b),aj z];rfl⟩
theorem Inv.qO{n:Nat}{H:Hp}(I:Inv nz pl ga ka wa n H g)(f:Fz g t)(e:Ext H H')(b:Pr H' t.p t.e t.r x)(i:x.Good):Inv nz pl ga ka wa n H' (g.twin t x):=by
 erw[iS I.msg,(A h s a l e1 m p),iD I.wait,(B o j e2 w q),dg I.cmd,(D c e3 k u),bf I.y6,(d P),<-⟨I.cells.twin f e b i,I.claim.twin e b,⟨d,P.keep (.qO f e (dc rfl))⟩,⟨A,h,s,a,l,e1,m.keep (.qO f e (by unfold oG;decide)),p⟩,⟨D,c,e3,k.keep (.qO f e (dc rfl)),u⟩,⟨B,o,j,e2,w.keep (.qO f e (by unfold sW;decide)),q⟩,I.num.keep (.qO f e (dc rfl))⟩]
theorem Inv.twin{n:Nat}{H:Hp}(I:Inv nz pl ga ka wa n H g)(f:Fr H t)(e:Ext H H')(h:Pr H' t.p t.e t.r x)(a:x.Good):Inv nz pl ga ka wa n H' (g.twin t x):=I.qO (f.z I.claim) e h a
theorem Eg(l:List Addr)(j:Nat)(a:Addr):(aT l).set j (.ref a)=aT (l.set j a):=by unfold aT;refine' aj Hh ?_;rfl
theorem Inv.Ie(I:Inv nz pl ga ka wa n H g)(P:gF H g pl ts)(v:tZ H g t)(j:Nat):Inv nz pl ga ka wa n (upd H pl (.list (aT ((ts.set j t).map (·.p))))) g:=by
 erw[iS I.msg,(A h u i F e1 m p),iD I.wait,(B o E e2 w q),dg I.cmd,(D c e3 k J)];have a:=P.r;have s:∀y,tZ H g y->tZ (upd H pl (.list (aT ((ts.set j t).map (·.p))))) g y:=λy hy=>⟨hy.p,ae (bX hy.p a (dc rfl)) hy.h,hy.e,hy.r⟩;refine⟨⟨λd b=>?_,λd b=>?_⟩,I.claim.upd,⟨ts.set j t,us,?_,by erw[aj List.length_set,<-P.len],λy hy=>?_,a⟩,⟨A,h,u,i,F,e1,m.keep (.upd (by erw[aj a];unfold oG;decide)),p⟩,⟨D,c,e3,k.keep (.upd (aj a (dc rfl))),J⟩,⟨B,o,E,e2,w.keep (.upd (by erw[aj a];unfold sW;decide)),q⟩,I.num.keep (.upd (aj a (dc rfl)))⟩
 ·erw[iE (I.cells.ent d b),(N M f L K),<-⟨ae (λz=>by rw[z,a] at b;exact b.elim (λl=>DE [(zn 6,zn 1)] rt (aa l)) (λl=>DE [(zn 6,zn 4)] rt (aa l))) N,ae (λz=>by rw[z,a] at f;exact b.elim (λG=>cH [(zn 6,zs av),(av,zn 1)] rt (aa f) (aa G)) (λG=>cH [(zn 6,zs av),(av,zn 4)] rt (aa f) (aa G))) M,f,L,K⟩]
 ·erw[ay (I.cells.pr d b),(c C x),<-⟨c,C,ae (bX b a (dc rfl)) x⟩]
 ·intro z;have:=congrArg cF z;rw[List.length_set,Bx] at this;exact P.ne (Fn.mp this)
 ·rcases List.mem_or_eq_of_mem_set hy with hy|hy
  ·exact s y (P.tr y hy)
  ·erw[aj hy,<-s t v]
variable{nz:Nz}
variable{pl:Addr}
variable{ga:Addr}
variable{ka:Addr}
variable{wa:Addr}
variable{t:Nat}
variable{g:Gh}
variable{ts:List Tr}
variable{j:Nat}
variable{y:Nat}
section
variable{G:Hp}
theorem tZ.pr(C:Cells H g){t:Tr}(h:tZ H g t):Pr H t.p t.e t.r (g.en t.e)/\(g.en t.e).Good:=by
 erw[iE (C.ent t.e (.inl h.e)),(a b _ _ k),<-⟨⟨h.h,a,by erw[aj h.r,<-b]⟩,k⟩]
theorem og(P:gF H g pl ts)(h:j<ts.length):∃z∈ts,ts[j]?=some z/\(aT (ts.map (·.p)))[j]?=some (.ref z.p)/\tZ H g z:=
 ⟨ts[j],fP h,bx h,jN (by erw[aj (cP),aj (bx h)];rfl),P.tr _ (fP h)⟩
theorem tA(f:Tr->V)(h:H a=some (.list (aT (ts.map (·.p)))))(l:ts.length<=1000)(i:∀(t:Tr),t∈ts->∀G:V->Hp->Prop,G (f t) H->dm af w K aH n elt (upd ρ 1000 (.ref t.p)) H G Ds)(q:∀c,H c=none->Q (.ref c) (upd H c (.list (ts.map f)))):tj af w K n elt none ρ Q (.ref a) H:=by
 have hl:(aT (ts.map (·.p))).length<=1000:=by rw[bG,aq];exact l
 refine sS h hl (λr b d=>d=H/\∃t1 t2:List Tr,r=aT (t2.map (·.p))/\t1++t2=ts/\b=t1.map f) ⟨rfl,[],ts,rfl,rfl,rfl⟩ (λb d=>gr λe=>(dg · λt1 t2 e1 e2 e3=>?_)) λv r b d=>gr λe=>(dg · λt1 t2 e1 e2 e3 G g=>?_)
 ·replace e:=e.symm;subst e
  induction t2 using lcs with
  |cons=>injection e1
  |nil=>
   rw[bb] at e2;replace e2:=e2.symm;subst e2;subst e3;exact q
 ·replace e:=e.symm;subst e
  induction t2 using lcs with
  |nil=>injection e1
  |cons t t2=>
   injection e1 with e1 e5
   subst e1;subst e5;exact i t (by erw[c_ e2];simp) G (g _ _ h ⟨rfl,t1++[t],t2,rfl,by erw[c_ e2];rewrite[aC];rfl,by erw[aj e3,aj aY];rfl⟩)
noncomputable def En.CG(x:En)(f:Nat):Int:=match f with
 |0=>x.t
 |1=>x.i
 |_=>x.k
theorem En.Py(x:En)(h:f<3):x.vs[f]?=some (.int (x.CG f)):=by
 refine UA h ?_ ?_ ?_
 ·rfl
 ·rfl
 ·rfl
theorem En.PN(x:En)(h:f<3)(v:Int):(x.d7 f v).d7 f (x.CG f)=x:=by
 refine UA h ?_ ?_ ?_
 ·rfl
 ·rfl
 ·rfl
theorem En.Li{x:En}(b:x.AN)(f:Nat)(h:big v):(x.d7 f v).AN:=by
 rcases b with⟨b1,b2,b3,b4⟩
 match f with
 |0=>exact⟨h,b2,b3,b4⟩
 |1=>exact⟨b1,h,b3,b4⟩
 |_+2=>exact⟨b1,b2,h,b4⟩
theorem En.NZ{x:En}(f:Nat)(h:¬rG v):¬(x.d7 f v).In:=λi=>by
 match f with
 |0=>exact h i.t
 |1=>exact h i.i
 |_+2=>exact h i.k
theorem iQ(h:y<2^39):Y y:=b_ h (dc rfl)
theorem v9(h:y<2^39)(k:Nat):y / k<2^39:=aK (nQ _ _) h
theorem UI(R:Rd af w K)(I:Inv nz pl ga ka wa t H g)(P:gF H g pl ts)(hj:j<ts.length)(M:y<2^39)(f:aB 8 n=true)(q:Q (.bool true) H):aZ af w K n 925 [.ref pl,.int (j:Int),.int (y:Int)] H Q X:=by
 erw[R.sJ.to rfl f,(n f),fh (og P hj),(z Qn _ hz G),aD (G.pr I.cells),(C gd),cA C.ne,(n1 n2 n3)];have hf:y%3<3:=kv;have jl:=P.len;have lQ:(aT (ts.map (·.p))).length<=100000:=by rw[bG,aq];exact dM jl rfl
 have h2:([V.ref z.e,.ref z.r]).length<=100000:=dc rfl;have h4:(g.en z.e).vs.length<=100000:=dc rfl;have D:g.R z.r=2:=by
  erw[aj G.r];have:=(I.cells.ent z.e (.inl G.e)).2.2.1;rw[G.e] at this;exact this
 have npe:=bX P.r G.e (dc rfl);have npr:=bX P.r D (dc rfl);generalize hx:g.en z.e=x at C gd h4;erw[Zg,Zf rfl rfl,ax P.h lQ (fw hz),Zg,Zs rfl rfl,dI rfl,Zg,Zo rfl,Zf rfl rfl,ax C.p h2 rfl,ax C.r h4 (fw (x.Py hf)),Zk,Zq,Zr rfl,Zr rfl,Za,Zq,Za,Zs rfl rfl,dT rfl (iQ M).big rfl,Zb,xk R ((iQ M).div 3) (lv f rfl),(v hv a),Zb,mX R C WL (lv f rfl)];have S:=En.Li gd.b (y%3) a;have O:=En.NZ (x:=x) (y%3) hv;have hsg:=x.PN hf v;generalize x.d7 (y%3) v=x1 at S O hsg;generalize A:upd (upd H z.r (.list x1.vs)) z.e x1.o=H1;have J:∀b mo,b≠z.e->b≠z.r->H b=some mo->H1 b=some mo:=λb mo a1 a2 a=>by refine' c_ A ?_;exact ae a1 (ae a2 a)
 have y4:Pr H1 z.p z.e z.r x1:=⟨J _ _ n1 n2 C.p,by erw[c_ A,<-us],by erw[c_ A,<-ae (aJ n3) us]⟩;have pl1:=J _ _ npe npr P.h;have f1:∀b,H1 b=none->H b=none:=λb a=>by
  rw[<-A] at a;exact(bo (bo a).1).1
 erw[Zg,ZQ,Zaf rfl rfl rfl rfl,(m hm),<-nY R hm (lv f rfl) λk Pk ne=>⟨rfl,?_⟩];have nme:=aJ ne;generalize hO:dE _ k V.none false []=O1;have B:∀L,Ext H1 (upd (upd H1 k L) m O1):=λL=>Ext.fresh (Ext.fresh Ext.refl Pk) hm;have Se:∀L,(upd (upd H1 k L) m O1) m=some O1:=λL=>us;have Ki:∀L,(upd (upd H1 k L) m O1) k=some L:=λL=>ae nme us
 obtain ⟨fs,Y9,abS⟩:∃fs,O1=MO.inst 578 fs/\AM fs 15=some (.ref k):=⟨_,hO.symm,rfl⟩
 erw[Zk,Zm,Zl rfl,aO ((Se _).trans (congrArg some Y9)) rfl abS,<-o7 (Ki _) ⟨rfl,?_⟩,Za,Zf rfl rfl,ax (B _ _ _ y4.p) h2 rfl,Zb,qV (Ki _) (ia _),aj (fB ne)];rewrite[bR];have N:=y4.ext (B (.list ([]++[V.ref z.e])));erw[Zg,Zal,Zq,Zr rfl,Za,Zf rfl rfl,ax N.p h2 rfl,Zb,EV R N.e S O (lv f rfl),Zx,Zp,ZY,Zq,Zr rfl,Za,Zf rfl rfl,ax N.p h2 rfl,Zb,DP R N.e S O (lv f rfl),Zx,Zp,ZU rfl rfl];have D_:=(Se (.list ([]++[V.ref z.e]))).trans (congrArg some hO.symm);erw[yq R (es:=[z.e]) (xs:=[x1]) D_ (Ki _) ⟨N.e,trivial⟩ .none ⟨λj hj=>?_,(aL S fL),aE rfl,(λs hs=>nomatch hs),aE rfl⟩ (λi=>O (i.xi x1 kf)) (lv f rfl)]
 ·refine Y0 hj ?_ ?_ ?_ ?_ ?_ ?_ ?_ ?_
  ·exact dv (dc rfl)
  ·exact dv (dc rfl)
  ·exact dv (dc rfl)
  ·exact dv (dc rfl)
  ·exact dv (dc rfl)
  ·exact dv (dc rfl)
  ·exact dv (dc rfl)
  ·exact dv (dc rfl)
 have fin:∀H2 ρ,Ext H1 H2->ρ 3=some (.ref z.p)->ρ 4=some (.int (y%3:Nat))->ρ 5=some (.int (x.CG (y%3)))->ρ 7=some (.bool true)->bN af w K aH n [.expr (bD 804 [dQ,fG,fJ]),dj (.and [A0,(bD 832 [dQ])])] ρ H2 (dF Q) (cG X):=λH2 ρ e2 r3 r4 r5 r7=>by
  have U:=y4.ext e2;erw[Zk,<-Zaj r3 r4 r5 ?_,mX R U WL (lv f rfl),aj hsg];have pr4:Pr (upd (upd H2 z.r (.list x.vs)) z.e x.o) z.p z.e z.r x:=⟨ae n1 (ae n2 U.p),us,ae (aJ n3) us⟩;erw[Zt,ZY,<-Zc r7 ?_,Zx,Zp,<-Zz r3 ?_,ot R pr4 gd (lv f rfl),<-bH (λb mo a=>?_) q]
  by_cases q1:b=z.e
  ·subst q1;rw[C.e] at a;erw[c_ a,<-us]
  ·by_cases q2:b=z.r
   ·subst q2;rw[C.r] at a;erw[c_ a,<-ae q1 us]
   ·exact ae q1 (ae q2 (e2 _ _ (J b mo q1 q2 a)))
 erw[Zh,Zj rfl rfl,<-j7 (λ_=>?_) (λ_=>?_)]
 ·erw[Zp,Zg,ZY,Zc rfl,Zx,Zp,Zq,Zr rfl,Za,ZK,Zc rfl];have aap:=B (.list ([]++[V.ref z.e])) _ _ pl1;have T:∀y∈ts,∃F:En,(upd (upd H1 k (.list ([]++[V.ref z.e]))) m O1) y.p=some (.list [.ref y.e,.ref y.r])/\(upd (upd H1 k (.list ([]++[V.ref z.e]))) m O1) y.e=some F.o/\F.AN/\(y.e=z.e->F=x1):=λy M=>by
   have ht:=P.tr y M;erw[aD (ht.pr I.cells),(E gy)];have Y:=bX ht.p G.e (dc rfl);have W:=bX ht.p D (dc rfl)
   by_cases qe:y.e=z.e
   ·exact⟨x1,B _ _ _ (J _ _ Y W E.p),by erw[aj qe,<-N.e],S,λ_=>rfl⟩
   ·have np3:=bX ht.e D (dc rfl);exact⟨g.en y.e,B _ _ _ (J _ _ Y W E.p),B _ _ _ (J _ _ qe np3 E.e),gy.b,λz=>absurd z qe⟩
  refine tA (λy=>.ref y.e) aap (dM jl rfl) (λy M G' hG=>?_) λc hc=>?_
  ·erw[fh (T y M),(F a1 a2 a3 _),Zf rfl rfl,ax a1 (dc rfl) rfl,<-hG]
  ·have exs:∃d:List En,dU (upd (upd H1 k (.list ([]++[V.ref z.e]))) m O1) (ts.map (·.e)) d/\(∀x∈d,x.AN)/\(z∈ts->x1∈d):=by
    have:∀l:List Tr,(∀y∈l,y∈ts)->∃d:List En,dU (upd (upd H1 k (.list ([]++[V.ref z.e]))) m O1) (l.map (·.e)) d/\(∀x∈d,x.AN)/\(z∈l->x1∈d):=λl=>by
     induction l with
     |nil=>exact λ_=>⟨[],trivial,λ_ h=>(nomatch h),λh=>(nomatch h)⟩
     |cons y l ih=>
      erw[(hl),cY (ih λu hu=>hl u (fV hu)),(d b1 b2 b3),fh (T y (hl y kf)),(F a1 a2 a3 a4),<-⟨F::d,⟨a2,b1⟩,aL a3 b2,λhm=>?_⟩];rcases bE.mp hm with e|hm
      ·erw[aj (a4 (aj e rfl)),<-kf]
      ·exact fV (b3 hm)
    exact this ts λ_ h=>h
   erw[cY exs,(d b1 b2 b3)];have bl:=b1.length;rw[aq] at bl;have em:(ts.map λy=>V.ref y.e)=aT (ts.map (·.e)):=by unfold aT;refine' aj eu ?_;rfl
   erw[aj em,Zb,Eh R us (b1.ext (Ext.fresh Ext.refl hc)) b2 (lM (ao bl) jl rfl) (λh=>O (h x1 (b3 Qn))) (lv f rfl),Ze,Zd,<-fin _ _ ((B _).trans (Ext.fresh Ext.refl hc)) rfl rfl rfl rfl]
 ·erw[Zi,Ze,Zd,<-fin _ _ (B _) rfl rfl rfl rfl]
end
section
variable{G:Hp}
theorem rmt(C:Cells H g){e:Addr}(h:g.R e=1):g.R (g.mt e)=2:=by
 have:=(C.ent e (.inl h)).2.2.1;exact WY h this
theorem tZ.put(C:Cells H g){e:Addr}(a:g.R e=1){x:En}{y' z':MO}{z:Tr}(h:tZ H g z):tZ (upd (upd H (g.mt e) y') e z') (g.put e x) z:=
 ⟨h.p,ae (bX h.p a (dc rfl)) (ae (bX h.p (rmt C a) (dc rfl)) h.h),h.e,h.r⟩
theorem gF.put(C:Cells H g){e:Addr}(a:g.R e=1){x:En}{y' z':MO}(P:gF H g pl ts):gF (upd (upd H (g.mt e) y') e z') (g.put e x) pl ts:=
 ⟨ae (bX P.r a (dc rfl)) (ae (bX P.r (rmt C a) (dc rfl)) P.h),P.ne,P.len,λz b=>(P.tr z b).put C a,P.r⟩
theorem tZ.off{a:Addr}{y':MO}{z:Tr}(h:tZ H g z)(n:g.R a≠3):tZ (upd H a y') g z:=
 ⟨h.p,ae (λe=>n (c_ e h.p)) h.h,h.e,h.r⟩
theorem pn(R:Rd af w K)(I:Inv nz pl ga ka wa t H g){z:Tr}(h:tZ H g z){f:Nat}(d:f<=3)(b:y<2^39)(c:aB 2 n=true)(q:∀(x':En),Inv nz pl ga ka wa t (upd (upd H (g.mt z.e) (.list x'.vs)) z.e x'.o) (g.put z.e x')->Q .none (upd (upd H (g.mt z.e) (.list x'.vs)) z.e x'.o)):aZ af w K n 811 [.ref z.p,.int (f:Int),.int (y:Int)] H Q X:=by
 erw[aD (h.pr I.cells),(a j)];rw[h.r] at a;exact IB R a j d b c λx' i=>q x' (I.put h.e i)
theorem CJ{e r p:Addr}{x:En}{c:Addr->MO}(h:H e=none)(hr:(upd H e x.o) r=none)(j:(upd (upd H e x.o) r (.list x.vs)) p=none):
  Fr H ⟨p,e,r⟩/\Ext H (upd (upd (upd H e x.o) r (.list x.vs)) p (.list [.ref e,.ref r]))/\Pr (upd (upd (upd H e x.o) r (.list x.vs)) p (.list [.ref e,.ref r])) p e r x:=by
 erw[aD (bo hr),(a d),aD (bo j),(i g),aD (bo i),(b f),<-⟨⟨b,h,a⟩,Ext.fresh (Ext.fresh (Ext.fresh Ext.refl h) a) b,⟨us,ae (aJ f) (ae (aJ d) us),ae (aJ g) us⟩⟩]
theorem zv{H:Hp}{t':Tr}{x:En}(h:Pr H t'.p t'.e t'.r x):tZ H (g.twin t' x) t':=by
 erw[GA (Nj (g:=g) (x:=x) h.ne),(c b i a f d),<-⟨c,h.p,b,a.symm⟩]
theorem Bl(R:Rd af w K)(I:Inv nz pl ga ka wa t H g)(P:gF H g pl ts)(W:j<ts.length)(U:y<2^39)(l:aB 8 n=true)(q:∀H' g',Inv nz pl ga ka wa t H' g'->Q (.bool true) H'):aZ af w K n 932 [.ref pl,.int (j:Int),.int (y:Int)] H Q X:=by
 erw[R.wq.to rfl l,(n l),fh (og P W),(z Qn _ hz u)];have jl:=P.len;have O:(aT (ts.map (·.p))).length<=100000:=by rw[bG,aq];exact dM jl rfl
 have h2:([V.ref z.e,.ref z.r]:List V).length<=100000:=dc rfl;have QI:y%4<=3:=by exact NF
 erw[aD (u.pr I.cells),(A gd),Zg,Zf rfl rfl,ax P.h O (fw hz)];have a:∀(s:Hp)(m:Gh),Inv nz pl ga ka wa t s m->gF s m pl ts->tZ s m z->jJ (m.en z.e)->bN af w K aH n [.bq 4 (bD 418 [(bw dQ 0)]),.dp (.cmp .NotEq fG (bD 797 [(bw dQ 1)])) [dj (.cst (.bool false))] [],.bq 5 (.lst [(bD 425 [fG]),(.call .list [(bw dQ 1)])]),.expr (bD 811 [fJ,(.bin .Mod dC (ek 4)),(.bin .FloorDiv dC (ek 4))]),.hX aN bA fJ,dj (.and [(bD 832 [fJ]),(bD 832 [dQ])])] (upd (sC ([.ref pl,.int (j:Int),.int (y:Int)]++[])) 3 (.ref z.p)) s (dF Q) (cG X):=λs m L P1 M B=>by
  erw[aD (M.pr L.cells),(v F)];generalize m.en z.e=x at v F B;have h4:x.vs.length<=1000:=dc rfl;erw[Zg,Zq,Za,Zf rfl rfl,ax v.p h2 rfl,Zb,<-jh R v.e F.b (lv l rfl) (λ_=>?_) (λz=>absurd F.i z),Zh,ZH,Zc rfl,Zq,Za,Zf rfl rfl,ax v.p h2 rfl,Zb,mH R v.r F.i F.b.d (lv l rfl),pX,Zi,Ze,Zd,Zg,eR rfl,Za,Zz rfl,<-lR R F.i F.b.d (lv l rfl) (λ_ e Y=>?_) (λz=>absurd B z)];have N:Ext s (upd s e x.o):=Ext.fresh Ext.refl Y;erw[Za,Z4,Za,Zf rfl rfl,ax (N _ _ v.p) h2 rfl,Zb,qc (N _ _ v.r) h4,(r hr),Zb,(p hp),cA (CJ (c:=λ_=>x.o) Y hr hp),(fr ex MH)];have D:=L.twin fr ex MH F;have T:=zv (g:=m) (t':=⟨p,e,r⟩) MH;have S:bJ (λn=>n=1\/n=3\/n=6) s m _ (m.twin ⟨p,e,r⟩ x):=.twin L.claim fr ex (dc rfl);have P2:=P1.keep S;have z2:=M.keep S (.inl rfl) (.inr (.inl rfl));erw[Zk,Zq,Zr rfl,Za,Zs rfl rfl,dI (y:=4) rfl,Za,Zs rfl rfl,dT (y:=4) rfl (iQ U).big rfl,Zb,pn R D T QI (v9 U 4) (lv l rfl),(k I3)];have C:=P2.put (x:=k) (y':=.list k.vs) (z':=k.o) D.cells T.e;have z3:=z2.put (x:=k) (y':=.list k.vs) (z':=k.o) D.cells T.e;have T3:=T.put (x:=k) (y':=.list k.vs) (z':=k.o) D.cells T.e;erw[ZJ,Zc rfl,Zc rfl,Zc rfl,jc C.h O gV (by rw[bG,aq];exact Y7 W)];rw[aM,Eg];have es:(ts.map (·.p)).set j p=(ts.set j ⟨p,e,r⟩).map (·.p):=by refine' aj Hh ?_;rfl
  erw[aj es];have J:=I3.Ie C T3 j;erw[aD ((T3.off (by erw[aj C.r];decide)).pr J.cells),(G gA),aD ((z3.off (by erw[aj C.r];decide)).pr J.cells),(E gB),Zt,ZY,Zz rfl,ot R G gA (lv l rfl),Zx,Zp,Zz rfl,ot R E gB (lv l rfl),<-bH Ext.refl (q _ _ J)]
 have h4:(g.en z.e).vs.length<=100000:=dc rfl;erw[Zh,ZR,Zn,Zy rfl,Zo rfl,Zf rfl rfl,ax A.p h2 rfl,ax A.r h4 rfl,<-wF (λh0=>?_) (λh0=>?_)]
 ·erw[Z2,Zi,Ze,Zd,<-a H g I P u (.inl h0)]
 ·erw[Zp,Zn,Zy rfl,Zo rfl,Zf rfl rfl,ax A.p h2 rfl,ax A.r h4 rfl,<-wF (λh1=>?_) (λh1=>?_)]
  ·erw[Z2,Zi,Ze,Zd,<-a H g I P u (.inr h1)]
  ·erw[Zp,ZD,Zp,Zk,Zq,Zr rfl,Zr rfl,Za,Zv rfl,Zs rfl rfl,dI (y:=2) rfl,<-⟨dv (by rw[cT];exact a_ kv (dc rfl)),dv (dc rfl),?_⟩,Zb];have hm2:y%2<2:=kv;erw[mX R (f:=2) A (dc rfl) (lv l rfl)];have hv:rG (((y%2:Nat):Int)*2):=⟨by exact VT,by exact Yq⟩;have gx:=gd.d7 2 hv;erw[aj u.r];have B:jJ ((g.put z.e ((g.en z.e).d7 2 (((y%2:Nat):Int)*2))).en z.e):=by
    have e:(g.put z.e ((g.en z.e).d7 2 (((y%2:Nat):Int)*2))).en z.e=(g.en z.e).d7 2 (((y%2:Nat):Int)*2):=if_pos rfl;erw[aj e,<-(Nat.mod_two_eq_zero_or_one y).elim (λh=>.inl (by rw[h];rfl)) λh=>.inr (by rw[h];rfl)]
   erw[Ze,Zd,<-a _ _ (I.put u.e gx) (P.put I.cells u.e) (u.put I.cells u.e) B]
theorem Jn(R:Rd af w K)(I:Inv nz pl ga ka wa t H g)(P:gF H g pl ts)(O:j<ts.length)(l:y<2^39)(a:aB 8 n=true)(q:∀H' g',Inv nz pl ga ka wa t H' g'->Q (.bool true) H'):aZ af w K n 939 [.ref pl,.int (j:Int),.int (y:Int)] H Q X:=by
 erw[R.DT.to rfl a,(n a),fh (og P O),(z Qn _ hz G)];have jl:=P.len;have L:(aT (ts.map (·.p))).length<=100000:=by rw[bG,aq];exact dM jl rfl
 have h2:([V.ref z.e,.ref z.r]:List V).length<=100000:=dc rfl;have QI:y%4<=3:=by exact NF
 have C:y / 4%4<=3:=by exact NF
 erw[aD (G.pr I.cells),(i F)];generalize hx:g.en z.e=x at i F;have h4:x.vs.length<=1000:=dc rfl;have D:=i.e;unfold En.o at D;erw[Zg,Zf rfl rfl,ax P.h L (fw hz),Zg,eR rfl,Za,Zm,Zf rfl rfl,ax i.p h2 rfl,bC D rfl,Zb,bt D rfl,oJ R i.e (lv a rfl),(e S)];have J:Ext H (upd H e x.o):=Ext.fresh Ext.refl S;erw[Za,Z4,Za,Zf rfl rfl,ax (J _ _ i.p) h2 rfl,Zb,qc (J _ _ i.r) h4,(r hr),Zb,(p hp),cA (CJ (c:=λ_=>x.o) S hr hp),(U W M)];have s:=I.twin U W M F;have T:=zv (g:=g) (t':=⟨p,e,r⟩) M;have N:bJ (λn=>n=1\/n=3\/n=6) H g _ (g.twin ⟨p,e,r⟩ x):=.twin I.claim U W (dc rfl);have P2:=P.keep N;have z2:=G.keep N (.inl rfl) (.inr (.inl rfl));erw[Zg,Zz rfl,mM R M F (lv a rfl),Zk,Zq,Zr rfl,Za,Zs rfl rfl,dI (y:=4) rfl,Za,Zs rfl rfl,dT (y:=4) rfl (iQ l).big rfl,Zb,pn R s T QI (v9 l 4) (lv a rfl),(b k)];have P3:=P2.put (x:=b) (y':=.list b.vs) (z':=b.o) s.cells T.e;have f:=z2.put (x:=b) (y':=.list b.vs) (z':=b.o) s.cells T.e;have T3:=T.put (x:=b) (y':=.list b.vs) (z':=b.o) s.cells T.e;erw[aD (T3.pr k.cells),(B gA),aD (f.pr k.cells),(A gB),Zg,Zal,Zc rfl,Zx,Zp,ZY,Zz rfl,ot R B gA (lv a rfl),Zx,Zp,Zz rfl,mM R A gB (lv a rfl),Zk,Zq,Zr rfl,Za,Zv rfl,Zs rfl rfl,dT (y:=4) rfl (iQ l).big rfl,dI (y:=4) rfl,Za,Zs rfl rfl,dT (y:=16) rfl (iQ l).big rfl,Zb,pn R k f C (v9 l 16) (lv a rfl),(d I4)];have m:=P3.put (x:=d) (y':=.list d.vs) (z':=d.o) k.cells f.e;have z4:=f.put (x:=d) (y':=.list d.vs) (z':=d.o) k.cells f.e;have Y:=T3.put (x:=d) (y':=.list d.vs) (z':=d.o) k.cells f.e;erw[ZJ,Zc rfl,Zc rfl,Zc rfl,jc m.h L gV (by rw[bG,aq];exact Y7 O)];rw[aM,Eg];have es:(ts.map (·.p)).set j p=(ts.set j ⟨p,e,r⟩).map (·.p):=by refine' aj Hh ?_;rfl
 erw[aj es];have E:=I4.Ie m Y j;erw[aD ((Y.off (by erw[aj m.r];decide)).pr E.cells),(v gC),aD ((z4.off (by erw[aj m.r];decide)).pr E.cells),(u gD),Zt,Zal,Zc rfl,Zx,Zp,ZY,Zz rfl,ot R u gD (lv a rfl),Zx,Zp,Zz rfl,ot R v gC (lv a rfl),<-bH Ext.refl (q _ _ E)]
end
theorem Cells.keep(C:Cells H g)(k:bJ (λn=>1<=n/\n<=5) H g H' g')(t:∀a,1<=g.R a->g.R a<=5->g'.en a=g.en a)(s:∀a,1<=g'.R a->g'.R a<=5->g.R a=g'.R a):Cells H' g':=by
 refine⟨λe hr=>?_,λp b=>?_⟩
 ·have c:=s e (hr.elim (λG=>dK [(zn 1,av)] (zn 1,av) rt (aa (ao G))) (λG=>dK [(zn 4,av)] (zn 1,av) rt (aa (ao G)))) (hr.elim (λo=>dK [(av,zn 1)] (av,zn 5) rt (aa o)) (λo=>dK [(av,zn 4)] (av,zn 5) rt (aa o)));rw[<-c] at hr;erw[iE (C.ent e hr),(d j f v u)];have s1:1<=g.R e/\g.R e<=5:=by exact⟨hr.elim (λq=>dK [(zn 1,av)] (zn 1,av) rt (aa (ao q))) (λq=>dK [(zn 4,av)] (zn 1,av) rt (aa (ao q))),hr.elim (λL=>dK [(av,zn 1)] (av,zn 5) rt (aa L)) (λL=>dK [(av,zn 4)] (av,zn 5) rt (aa L))⟩
  have s2:1<=g.R (g.mt e)/\g.R (g.mt e)<=5:=by exact⟨fp [(zs av,aX)] (zn 1,aX) rt (aa (ao f)),hr.elim (λl=>fp [(av,zs aX),(aX,zn 1)] (av,zn 5) rt (aa f) (aa l)) (λl=>fp [(av,zs aX),(aX,zn 4)] (av,zn 5) rt (aa f) (aa l))⟩
  erw[aj (k.m e s1),aj (t e s1.1 s1.2),c_ c,aj (k.r _ s2),aj (k.m _ s2),<-⟨k.h _ _ s1 d,k.h _ _ s2 j,f,v,u⟩]
 ·have i:=s p (dK [(zn 3,av)] (zn 1,av) rt (aa (ao b))) (zwb b rfl);rw[<-i] at b;erw[ay (C.pr p b),(e d j)];have s1:1<=g.R e/\g.R e<=5:=by exact⟨dK [(zn 1,av)] (zn 1,av) rt (aa (ao d)),dK [(av,zn 1)] (av,zn 5) rt (aa d)⟩
  exact⟨e,(k.r e s1).trans d,by erw[aj (k.m e s1),<-k.h _ _ (⟨dK [(zn 3,av)] (zn 1,av) rt (aa (ao b)),dK [(av,zn 3)] (av,zn 5) rt (aa b)⟩) j]⟩
theorem Cells.off{y:MO}(C:Cells H g)(n:5<g.R a):Cells (upd H a y) g:=C.keep (.upd (λK=>cH [(zs (zn 5),av),(av,zn 5)] rt n K.2)) (λ_ _ _=>rfl) λ_ _ _=>rfl
theorem Inv.xI(I:Inv nz pl ga ka wa t H g)(k:bJ (λn=>1<=n/\n<=14) H g H' g')(p:g'.en=g.en)(r:∀a,g'.R a=g.R a\/13<g'.R a\/g'.R a=0)(C:Claim H' g')(l:t<=t')(m:∃A h s rej i,A.gl=ga/\ja H' g' 20 A h s rej i/\jz h s i A.tr t'):Inv nz pl ga ka wa t' H' g':=by
 erw[iD I.wait,(B o u e2 w q),dg I.cmd,(D c e3 j v),bf I.y6,(ts P),<-⟨I.cells.keep (k.sub λn h=>by exact R7 h) (λa _ _=>by erw[aj p];rfl) (λa h1 h2=>?_),C,⟨ts,P.keep (k.sub λn h=>by exact Yj h)⟩,m,⟨D,c,e3,j.keep (k.sub λn h=>by exact⟨h.elim (λf=>dK [(zn 11,av)] (zn 1,av) rt (aa (ao f))) (λf=>f.elim (λG=>dK [(zn 12,av)] (zn 1,av) rt (aa (ao G))) (λG=>dK [(zn 13,av)] (zn 1,av) rt (aa (ao G)))),h.elim (λd=>dK [(av,zn 11)] (av,zn 14) rt (aa d)) (λd=>d.elim (λe=>dK [(av,zn 12)] (av,zn 14) rt (aa e)) (λe=>dK [(av,zn 13)] (av,zn 14) rt (aa e)))⟩),v⟩,⟨B,o,u,e2,w.keep (k.sub λn h=>by unfold sW at h;exact⟨h.elim (λF=>dK [(zn 4,av)] (zn 1,av) rt (aa (ao F))) (λF=>dK [(zn 7,av)] (zn 1,av) rt F.1),h.elim (λb=>dK [(av,zn 4)] (av,zn 14) rt (aa b)) (λb=>dK [(av,zn 10)] (av,zn 14) rt b.2)⟩),⟨?_,?_,?_⟩⟩,I.num.keep (k.sub λn h=>by exact WD h)⟩]
 ·rcases r a with h|h|h
  ·exact h.symm
  ·exact aS ((cH [(zs (zn 13),av),(av,zn 5)] rt h h2).elim) ((cH [(zs (zn 13),av),(av,zn 5)] rt h h2).elim)
  ·exact aS ((cH [(zn 1,av),(av,zn 0)] rt h1 (aa h)).elim) (fp [(av,zn 0)] (av,aX) rt (aa h))
 ·have:=q.lo;exact gP [(zn 110,zp av aX),(aX,bT)] (zn 110,zp av bT) rt this l
 ·have:=q.hi;exact gP [(av,zp (zn 144115188075855872) (zm 100 aX)),(zm 100 aX,zm 100 bT)] (av,zp (zn 144115188075855872) (zm 100 bT)) rt this (aP 100 l)
 ·have:=q.len;exact gP [(av,zm 2 aX),(zm 2 aX,zm 2 bT)] (av,zm 2 bT) rt this (aP 2 l)
theorem ja.say(f:10<=b)(x:ja H g b A h sn rej cj):ja (upd (upd H A.nu (.list (hl h'))) A.m (dE h' A.me (yR A.sa) rej cj)) g b A h' sn rej cj:=by
 rcases x with⟨a1,a2,a3,a4,a5,a6,a7,r1,r2,r3,r4,r5,r6⟩
 have st:∀a n d,g.R a=n->n≠b+1->n≠b+2->H a=some d->(upd (upd H A.nu (.list (hl h'))) A.m (dE h' A.me (yR A.sa) rej cj)) a=some d:=λa n d e j i q=>
  ae (λz=>j (c_ e (aj z (aj r2 rfl)))) (ae (λz=>i (c_ e (aj z (aj r3 rfl)))) q)
 refine⟨st _ _ _ r1 Yd YS a1,us,ae (bX r3 r2 (nS rfl)) us,st _ _ _ r4 (nS rfl) (nS rfl) a4,st _ _ _ r5 (nS rfl) (nS rfl) a5,λt c=>⟨(a6 t c).p,st _ _ _ (a6 t c).p (λe=>cH [(zn 10,av),(zs av,zn 3)] rt f (aa (ao e))) (λe=>cH [(zn 10,av),(zk av 2,zn 3)] rt f (aa (ao e))) (a6 t c).h,(a6 t c).e,(a6 t c).r⟩,?_,r1,r2,r3,r4,r5,r6⟩;have k:bJ (λn=>b+5<=n/\n<=b+10) H g (upd (upd H A.nu (.list (hl h'))) A.m (dE h' A.me (yR A.sa) rej cj)) g:=(bJ.upd (aj r3 (λo=>cH [(zk av 5,zk av 2)] rt o.1))).trans (bJ.upd (aj r2 (λG=>cH [(zk av 5,zs av)] rt G.1)));exact a7.keep k (λn l u=>⟨l,u⟩) r6
section
variable{G:Hp}
theorem v7(R:Rd af w K)(d:10<=b)(x:ja H g b A h sn rej cj)(c:f<=7)(a:aB 0 n=true)(q:ja (upd (upd H A.nu (.list (hl (hY h f v)))) A.m (dE (hY h f v) A.me (yR A.sa) rej cj)) g b A (hY h f v) sn rej cj->Q .none (upd (upd H A.nu (.list (hl (hY h f v)))) A.m (dE (hY h f v) A.me (yR A.sa) rej cj))):aZ af w K n 885 [.ref A.gl,.int (f:Int),.int v] H Q X:=
 NV R c x.hg x.hm x.hu (bX x.rg x.Ff YS) a (q (x.say d))
theorem J5(h:Nat->Int)(a:f<8):(hl h)[f]?=some (.int (h f)):=by
 refine Y0 a ?_ ?_ ?_ ?_ ?_ ?_ ?_ ?_
 ·rfl
 ·rfl
 ·rfl
 ·rfl
 ·rfl
 ·rfl
 ·rfl
 ·rfl
theorem PJ(h:Nat->Int)(f:Nat)(v:Int):hY h f v f=v:=if_pos rfl
theorem rN{P:Int->Prop}(a:∀j,j<8->P (h j))(b:P v):∀j,j<8->P (hY h f v j):=λj c=>by
 unfold hY
 split
 ·exact b
 ·exact a j c
theorem MG:hY (hY h f v) f u=hY h f u:=funext λj=>by
 unfold hY
 split<;>rfl
theorem bJ.say{A:CB}(h2:g.R A.nu=b+2)(h1:g.R A.m=b+1)(n:¬s (b+2))(a:¬s (b+1)):bJ s H g (Mine.upd (Mine.upd H A.nu y') A.m z') g:=
 (bJ.upd (aj h2 n)).trans (bJ.upd (aj h1 a))
theorem ja.big{C:Cells H g}(x:ja H g b A h sn rej cj)(p:jz h sn cj A.tr t):um h (A.tr.map λt=>g.en t.e) sn cj:=p.ok C λy a=>(x.ht y a).e
theorem D5(R:Rd af w K)(I:Inv nz pl ga ka wa t H g)(hy:y<2^39)(o:aB 10 n=true)(q:∀P g',Inv nz pl ga ka wa t P g'->Q (.bool true) P):aZ af w K n 946 [.ref ga,.int (y:Int)] H Q X:=by
 erw[R.Ak.to rfl o,(n o),iS I.msg,(A h sn d f eK M p)];subst eK;have h6:∀r c,(A.gv r c).length<=100000:=λr c=>by show 6<=100000;decide
 have h8:(hl h).length<=100000:=dc rfl;have RT:=v9 hy 10;have acb:y%10<10:=kv;have Oh:A.m≠A.gl:=bX M.rm M.rg (dc rfl);erw[Zg,Zs rfl rfl,dI (y:=10) rfl,Zg,Zs rfl rfl,dT (y:=10) rfl (iQ hy).big rfl];have E:∀(O:Hp)(h1:Nat->Int)(r1:Bool)(Y:List UInt8)(ρ:Loc),bJ (λn=>1<=n/\n<=14) H g O g->Claim O g->ja O g 20 A h1 sn r1 Y->jz h1 sn Y A.tr t->ρ 0=some (.ref A.gl)->bN af w K aH n [dj (bD 878 [aN])] ρ O (dF Q) (cG X):=λO h1 r1 Y ρ L cl x p1 r0=>by
  have I1:=I.xI L rfl (λ_=>.inl rfl) cl qQ ⟨A,h1,sn,r1,Y,rfl,x,p1⟩;erw[Zt,<-Zz r0 ?_,sN R (x.mb I1.cells) (ja.big (C:=I1.cells) x p1) (lv o rfl),<-bH Ext.refl (q _ _ I1)]
 erw[Zh,Zj rfl rfl,<-cq (λe8=>?_) (λe8=>?_)]
 ·erw[Zp,ZJ,Zas,Zf rfl rfl,ax M.hg (h6 _ _) rfl,Zx,Zc rfl,ZA,jc M.hg (h6 _ _) (dc rfl) (dc rfl)];have N:(upd H A.gl (.list (A.gv (!d) f))) A.gl=some (.list (A.gv (!d) f)):=us;have J:=ae (b:=A.gl) (mo:=.list (A.gv (!d) f)) Oh M.hm;have D_:=J;unfold dE at J;erw[Zu,Zf rfl rfl,ax N (h6 _ _) rfl,Zf rfl rfl,ax (v:=.ref A.m) N (h6 _ _) rfl,bQ J rfl rfl,Ze,Zd];have L:bJ (λn=>1<=n/\n<=14) H g (upd (upd H A.gl (.list (A.gv (!d) f))) A.m (dE h A.me (yR A.sa) (!d) f)) g:=(bJ.upd (by erw[aj M.rg];decide)).trans (bJ.upd (by erw[aj M.rm];decide));have k:bJ (λn=>n≠20/\n≠21) H g (upd (upd H A.gl (.list (A.gv (!d) f))) A.m (dE h A.me (yR A.sa) (!d) f)) g:=(bJ.upd (by erw[aj M.rg];decide)).trans (bJ.upd (by erw[aj M.rm];decide));refine E _ h (!d) f _ L I.claim.upd.upd ⟨ae (aJ Oh) us,us,k.h _ _ (by erw[aj M.Ff];decide) M.hu,k.h _ _ (by erw[aj M.Jx];decide) M.h3,k.h _ _ (by erw[aj M.GJ];decide) M.he,λz hz=>(M.ht z hz).keep k (dc rfl) (dc rfl),M.hs.keep k (λn l u=>by exact Vy l) M.rs,M.rg,M.rm,M.Ff,M.Jx,M.GJ,M.rs⟩ p rfl
 ·erw[Zi,Zh,Zj rfl rfl,<-cq (λW=>?_) (λW=>?_)]
  ·erw[Zp,ZJ,Zq,Za,Zf rfl rfl,ax M.hg (h6 _ _) rfl,ZF rfl,i8 R p.c (iQ RT) (lv o rfl),(D hc'),Zc rfl,ZA,jc M.hg (h6 _ _) (dc rfl) (dc rfl)];have N:(upd H A.gl (.list (A.gv d D))) A.gl=some (.list (A.gv d D)):=us;have J:=ae (b:=A.gl) (mo:=.list (A.gv d D)) Oh M.hm;unfold dE at J;erw[Zu,Zf rfl rfl,ax N (h6 _ _) rfl,Zf rfl rfl,ax (v:=.ref A.m) N (h6 _ _) rfl,bQ J rfl rfl,Ze,Zd,Zd];have L:bJ (λn=>1<=n/\n<=14) H g (upd (upd H A.gl (.list (A.gv d D))) A.m (dE h A.me (yR A.sa) d D)) g:=(bJ.upd (by erw[aj M.rg];decide)).trans (bJ.upd (by erw[aj M.rm];decide));have k:bJ (λn=>n≠20/\n≠21) H g (upd (upd H A.gl (.list (A.gv d D))) A.m (dE h A.me (yR A.sa) d D)) g:=(bJ.upd (by erw[aj M.rg];decide)).trans (bJ.upd (by erw[aj M.rm];decide));refine E _ h d D _ L I.claim.upd.upd ⟨ae (aJ Oh) us,us,k.h _ _ (by erw[aj M.Ff];decide) M.hu,k.h _ _ (by erw[aj M.Jx];decide) M.h3,k.h _ _ (by erw[aj M.GJ];decide) M.he,λz hz=>(M.ht z hz).keep k (dc rfl) (dc rfl),M.hs.keep k (λn l u=>by exact Vy l) M.rs,M.rg,M.rm,M.Ff,M.Jx,M.GJ,M.rs⟩ ⟨p.hi,p.zx,p.len,p.so,by exact dM hc' rfl⟩ rfl
  ·have U:y%10<8:=by exact(pf e8).elim (λMn=>aU.mp (oZ [(ys cN,yn 8)] (ys cN,yn 8) rt Mn)) (λMn=>(pf W).elim (λMm=>A8 (λ_=>U5 [(ys (yn 8),cN),(ys cN,yn 9)] rt Mn Mm)) (λMm=>A8 (λ_=>U5 [(ys cN,yn 10),(ys (yn 9),cN)] rt (aU.mpr kv) Mm)))
   erw[Zi,Zg,Zo rfl,Zf rfl rfl,ax M.hg (h6 _ _) rfl,ax M.hu h8 (fw (J5 h U)),xk R (iQ RT) (lv o rfl),(v hv hb),Zb,v7 R (b:=20) (dc rfl) M (by exact YQ e8 W) (lv o rfl),(x)];have kk:=λ(y' z':MO)=>bJ.say (H:=H) (y':=y') (z':=z') (s:=λn=>1<=n/\n<=14) M.Ff M.rm (dc rfl) (dc rfl);have C1:Cells _ g:=I.cells.keep ((kk (.list (hl (hY h (y%10) v))) (dE (hY h (y%10) v) A.me (yR A.sa) d f)).sub λn h=>by exact R7 h) (λ_ _ _=>rfl) λ_ _ _=>rfl;have b1:=x.mb C1;have T:=ja.big (C:=I.cells) M p;erw[Zh,ZP,Zaa,Zr rfl,Za,Zf rfl rfl,ax (v:=.ref A.m) x.hg (h6 _ _) rfl,Zb,yq R x.hm x.he b1.BL.OU b1.sn.Pf ⟨rN (λj hj=>lP (p.hi j hj)) hb,T.big.xb,T.big.len,T.so,T.c⟩ (λi=>hv (by have:=i.hi _ U;rwa [PJ] at this)) (lv o rfl)];have B:∀(u:Int),rG u->(y%10=0->u<=20)->∀ρ:Loc,ρ 0=some (.ref A.gl)->∀F:V->Hp->Prop,(∀P,bN af w K aH n [S.ret (some (bD 878 [aN]))] ρ P (dF Q) (cG X)->F .none P)->aZ af w K n 885 [.ref A.gl,.int ((y%10:Nat):Int),.int u] (upd (upd H A.nu (.list (hl (hY h (y%10) v)))) A.m (dE (hY h (y%10) v) A.me (yR A.sa) d f)) F (cG X):=λu hu hu0 ρ r0 F hF=>by
    erw[v7 R (b:=20) (dc rfl) x (by exact YQ e8 W) (lv o rfl),(M2)];rw[MG] at M2⊢;rw[fB (a:=A.m) (b:=A.nu) (bX M.rm M.Ff (dc rfl)),bR,bR] at M2⊢;erw[hF _];exact E _ _ d f ρ (kk _ _) I.claim.upd.upd M2 ⟨rN p.hi hu,by
     unfold hY
     split
     ·rename_i e;exact hu0 e.symm
     ·exact p.zx,p.len,p.so,p.c⟩ r0
   erw[Zx,Zi,Ze,Zd,Zh,Zj rfl rfl,<-cq (λe0=>?_) (λe0=>?_)]
   ·have e0':y%10=0:=by exact Uv e0
    erw[Zp,Zk,Zq,Zr rfl,Zr rfl,Za,Zv rfl,ZC,Zs rfl rfl,Zw,Zs rfl rfl,dI (y:=20) rfl,Zw,ay (eO (p.hi (y%10) U)),(hk G lhk)];have ab5:hk<=20:=by
     have:=p.zx;rw[e0'] at G;exact aw.mp (oE [(cN,dX),(dX,yn 20)] (cN,yn 20) rt (aG (ao G)) this)
    erw[aj (show h (y%10)+1+((y / 10%20:Nat):Int)=((hk+1+y / 10%20:Nat):Int) by exact Vr G),dI (y:=21) rfl,Zb,<-B _ ⟨gV,by exact aw.mpr (dK [(zs av,zn 21)] (av,zn 18446744073709551615) rt kv)⟩ (λ_=>by exact aw.mpr (dK [(zs av,zn 21)] (av,zn 20) rt kv)) _ rfl _ λ_ h=>Ze (Zd (Ze (Zd (Ze (Zd h)))))]
   ·erw[Zi,Zk,Zq,Zr rfl,Zr rfl,Za,ZU rfl rfl,iC R (p.hi _ U) RT (lv o rfl),(u hu),Zb,<-B _ ⟨gV,by exact o6 hu⟩ (λz=>absurd (by exact Wg z) e0) _ rfl _ λ_ h=>Ze (Zd (Ze (Zd (Ze (Zd h)))))]
end
noncomputable def Gh.set(g:Gh)(a:Addr)(n:Nat):Gh:={g with R:=λb=>if b=a then n else g.R b}
theorem gS:(g.set a n).R a=n:=if_pos rfl
theorem fA(h:b≠a):(g.set a n).R b=g.R b:=if_neg h
theorem bJ.set{H:Hp}{g:Gh}{n:Nat}(h:¬s (g.R a)):bJ s H g H (g.set a n):=
 ⟨λb k=>fA λe=>h (c_ e k),λ_ _=>rfl,λ_ _ _ h=>h⟩
theorem Claim.set{H:Hp}{g:Gh}{n:Nat}(C:Claim H g)(h:H a≠none):Claim H (g.set a n):=⟨λb k=>by
 by_cases e:b=a
 ·erw[aj e,<-h]
 ·rw[fA e] at k;exact C.c b k⟩
theorem ja.trs(y:10<=b)(x:ja H g b A h sn rej cj)(w:∀t∈tr,tZ H g t):
  ja (upd (upd H A.me (.list (aT (tr.map (·.e))))) A.g3 (.list (aT (tr.map (·.p))))) g b {A with tr:=tr} h sn rej cj:=by
 rcases x with⟨a1,a2,a3,a4,a5,a6,a7,r1,r2,r3,r4,r5,r6⟩
 have k:bJ (λn=>n≠b+3/\n≠b+4) H g (upd (upd H A.me (.list (aT (tr.map (·.e))))) A.g3 (.list (aT (tr.map (·.p))))) g:=(bJ.upd (aj r5 (λC=>(iw C.1).elim (λF=>(iw C.2).elim (λv=>cH [(zs av,av)] rt v) (λv=>cH [(zs av,av)] rt v)) (λF=>(iw C.2).elim (λs=>cH [(zs av,av)] rt s) (λs=>cH [(zs av,av)] rt s))))).trans (bJ.upd (aj r4 (λB=>(iw B.1).elim (λG=>cH [(zs av,av)] rt G) (λG=>cH [(zs av,av)] rt G))));exact⟨k.h _ _ (aj r1 ⟨λz=>cH [(zk av 3,av)] rt (aa (ao z)),λL=>cH [(zk av 4,av)] rt (aa (ao L))⟩) a1,k.h _ _ (aj r2 ⟨λa=>cH [(zk av 3,zs av)] rt (aa (ao a)),λi=>cH [(zk av 4,zs av)] rt (aa (ao i))⟩) a2,k.h _ _ (aj r3 ⟨λd=>cH [(zk av 3,zk av 2)] rt (aa (ao d)),λr=>cH [(zk av 4,zk av 2)] rt (aa (ao r))⟩) a3,us,ae (bX r5 r4 (nS rfl)) us,λt h=>(w t h).keep k (⟨λj=>cH [(zk av 3,zn 1)] rt (aa (ao j)),λq=>cH [(zk av 4,zn 1)] rt (aa (ao q))⟩) (⟨λc=>cH [(zn 10,av),(zk av 3,zn 3)] rt y (aa (ao c)),λo=>cH [(zk av 4,zn 3)] rt (aa (ao o))⟩),a7.keep k (λn l u=>by exact⟨λf=>FQ [(zk av 5,aX),(aX,zk av 3)] rt l (aa f),λm=>FQ [(zk av 5,aX),(aX,zk av 4)] rt l (aa m)⟩) r6,r1,r2,r3,r4,r5,r6⟩
theorem ja.abA(x:ja H g b A h sn rej cj)(k:bJ (λn=>n=1\/n=3\/(b<=n/\n<=b+4)) H g H' g)(s:tY H' A.sa E_):ja H' g b A h E_ rej cj:=by
 rcases x with⟨a1,a2,a3,a4,a5,a6,a7,r1,r2,r3,r4,r5,r6⟩
 exact⟨k.h _ _ (aj r1 (.inr (.inr (⟨dK [] (av,av) rt,dK [] (av,zk av 4) rt⟩)))) a1,k.h _ _ (aj r2 (.inr (.inr (⟨dK [] (av,zs av) rt,dK [] (zs av,zk av 4) rt⟩)))) a2,k.h _ _ (aj r3 (.inr (.inr (⟨dK [] (av,zk av 2) rt,dK [] (zk av 2,zk av 4) rt⟩)))) a3,k.h _ _ (aj r4 (.inr (.inr (⟨dK [] (av,zk av 3) rt,dK [] (zk av 3,zk av 4) rt⟩)))) a4,k.h _ _ (aj r5 (.inr (.inr (⟨dK [] (av,zk av 4) rt,dK [] (zk av 4,zk av 4) rt⟩)))) a5,λt h=>(a6 t h).keep k (.inl rfl) (.inr (.inl rfl)),s,r1,r2,r3,r4,r5,r6⟩
section
variable{G:Hp}
theorem An(l:List Addr)(i:Nat):(aT l).eraseIdx i=aT (l.eraseIdx i):=by
 unfold aT
 induction l generalizing i with
 |nil=>rfl
 |cons a l b=>
  induction i using Nat.casesOn with
  |zero=>rfl
  |succ i=>refine' aj du ?_;refine' aj jX ?_;refine' aj jX ?_;refine' aj du ?_;rw[b]
theorem BQ(f:Tr->β)(l:List Tr)(i:Nat):(l.map f).eraseIdx i=(l.eraseIdx i).map f:=by
 induction l generalizing i with
 |nil=>rfl
 |cons a l b=>
  induction i using Nat.casesOn with
  |zero=>rfl
  |succ i=>refine' aj du ?_;refine' aj jX ?_;refine' aj jX ?_;refine' aj du ?_;rw[b]
theorem PS(R:Rd af w K)(I:Inv nz pl ga ka wa t H g)(m:tZ H g z)(P:y<2^39)(o:aB 10 n=true)(q:∀G W,Inv nz pl ga ka wa t G W->Q (.bool true) G):aZ af w K n 953 [.ref ga,.ref z.p,.int (y:Int)] H Q X:=by
 erw[R.qJ.to rfl o,(n o),iS I.msg,(A h B d s Y M p)];subst Y;have h6:(A.gv d s).length<=100000:=dc rfl;have l:=p.len;have l3:(aT (A.tr.map (·.p))).length=A.tr.length:=by rw[bG,aq]
 have F:(aT (A.tr.map (·.e))).length=A.tr.length:=by rw[bG,aq]
 have h2:([V.ref z.e,.ref z.r]).length<=100000:=dc rfl;have b:=bX M.Jx M.GJ (dc rfl);have i:=bX M.rg M.GJ (dc rfl);have L:=bX m.p M.GJ (dc rfl);have D:=M.hm;unfold dE at D;have j:∀(a:List Tr)(ρ:Loc),(∀t∈a,tZ H g t)->a.length<=5->ρ 0=some (.ref A.gl)->bN af w K aH n [dj (bD 878 [aN])] ρ (upd (upd H A.me (.list (aT (a.map (·.e))))) A.g3 (.list (aT (a.map (·.p))))) (dF Q) (cG X):=λa ρ S hl J=>by
  have v:=M.trs (dc rfl) S;have N:bJ (λn=>1<=n/\n<=14) H g (upd (upd H A.me (.list (aT (a.map (·.e))))) A.g3 (.list (aT (a.map (·.p))))) g:=(bJ.upd (aj M.GJ (dc rfl))).trans (bJ.upd (aj M.Jx (dc rfl)));have E:jz h B s a t:=⟨p.hi,p.zx,hl,p.so,p.c⟩;have x:=I.xI N rfl (λ_=>.inl rfl) I.claim.upd.upd qQ ⟨{A with tr:=a},h,B,d,s,rfl,v,E⟩;erw[Zt,<-Zz J ?_,sN R (A:={A with tr:=a}) (v.mb x.cells) (ja.big (C:=x.cells) v E) (lv o rfl),<-bH Ext.refl (q _ _ x)]
 have k:A.tr.length<5->bN af w K aH n [.expr (.bp (.attr (bw aN 0) 15) 0 [(bw bA 0)]),.expr (.bp (bw aN 3) 0 [bA])] (sC ([.ref A.gl,.ref z.p,.int y]++[])) H (ic af w K n [dj (bD 878 [aN])] (dF Q) (cG X)) (cG X):=λhl=>by
  erw[Zk,Zm,Z6,Zf rfl rfl,ax M.hg h6 rfl,aO D rfl rfl,<-o7 M.he ⟨rfl,?_⟩,Za,Zf rfl rfl,ax m.h h2 rfl,Zb,qV M.he (Xm hl F)];have e1:aT (A.tr.map (·.e))++[V.ref z.e]=aT ((A.tr++[z]).map (·.e)):=by unfold aT;refine' aj aY ?_;refine' aj aY ?_;rfl
  have e2:aT (A.tr.map (·.p))++[V.ref z.p]=aT ((A.tr++[z]).map (·.p)):=by unfold aT;refine' aj aY ?_;refine' aj aY ?_;rfl
  erw[aj e1,Zk,Zm,Zf rfl rfl,ax (ae i M.hg) h6 rfl,<-o7 (ae b M.h3) ⟨rfl,?_⟩,ZF rfl,qV (ae b M.h3) (Xm hl l3),aj e2,Ze,Zd,<-j _ _ (λu hu=>?_) (aj ah (aj aW (dK [(zs av,zn 5)] (zs av,zn 5) rt hl))) rfl];rcases cC.mp hu with hu|hu
  ·exact M.ht u hu
  ·erw[aj (aR.mp hu),<-m]
 have f:0<A.tr.length->bN af w K aH n [.bq 3 (.bin .Mod (.bin .FloorDiv dC (ek 2)) (.call .len [(bw aN 3)])),.expr (.bp (.attr (bw aN 0) 15) 1 [dQ]),.expr (.bp (bw aN 3) 1 [dQ])] (sC ([.ref A.gl,.ref z.p,.int y]++[])) H (ic af w K n [dj (bD 878 [aN])] (dF Q) (cG X)) (cG X):=λhl=>by
  have O:y / 2%A.tr.length<A.tr.length:=fT _ hl;erw[Zg,ZC,Zs rfl rfl,dT rfl (iQ P).big rfl,ZN,Za,Zf rfl rfl,ax M.hg h6 rfl,Zb,dW M.h3 (lM l3 l rfl),aj l3,dI (d4.mpr hl),Zk,Zm,Z6,Zf rfl rfl,ax M.hg h6 rfl,aO D rfl rfl,<-o7 M.he ⟨rfl,?_⟩,ZF rfl];have U:(aT (A.tr.map (·.e)))[((y / 2%A.tr.length:Nat):Int).toNat]?=some (.ref (A.tr[y / 2%A.tr.length]).e):=by
   rw[aM];exact jN (by erw[aj (cP),aj (bx O)];rfl)
  have T:(aT (A.tr.map (·.p)))[((y / 2%A.tr.length:Nat):Int).toNat]?=some (.ref (A.tr[y / 2%A.tr.length]).p):=by
   rw[aM];exact jN (by erw[aj (cP),aj (bx O)];rfl)
  erw[QP M.he (lM F l rfl) gV U];rw[aM,An,BQ];erw[Zk,Zm,Zf rfl rfl,ax (ae i M.hg) h6 rfl,<-o7 (ae b M.h3) ⟨rfl,?_⟩,ZF rfl,QP (ae b M.h3) (lM l3 l rfl) gV T];rw[aM,An,BQ];erw[Ze,Zd,<-j _ _ (λu hu=>M.ht u (List.mem_of_mem_eraseIdx hu)) (by erw[aj List.length_eraseIdx];split<;>first|exact l|exact aF (i5 _ _) l) rfl]
 erw[Zh,ZT,Zn,Zy rfl,ZN,Za,Zf rfl rfl,ax M.hg h6 rfl,Zb,dW M.h3 (lM l3 l rfl),aj l3,<-cq (λe=>?_) (λe=>?_)]
 ·erw[Z0,Zp,<-k (dK [(av,zn 0)] (zs av,zn 5) rt (aa (fF e)))]
 ·erw[ZM,Zn,ZR,Zn,Zy rfl,Zs rfl rfl,dI rfl,<-cq (λe2=>?_) (λe2=>?_)]
  ·erw[Zp,Zn,Zy rfl,ZN,Za,Zf rfl rfl,ax M.hg h6 rfl,Zb,dW M.h3 (lM l3 l rfl),aj l3,<-fH (λe4=>?_) (λe4=>?_)]
   ·erw[Zao,ZD,Z0,Zp,<-k (dK [(zs av,zn 4)] (zs av,zn 5) rt (aU.mp e4))]
   ·erw[Z2,ZM,ZD,Zi,<-f (XF e)]
  ·erw[Z2,ZM,ZD,Zi,<-f (XF e)]
end
noncomputable def Gh.sets(g:Gh)(l:List (Addr×Nat)):Gh:=l.foldl (λg x=>g.set x.1 x.2) g
theorem bJ.sets{H:Hp}:∀(l:List (Addr×Nat)) {g:Gh},(∀x∈l,¬s (g.R x.1))->(∀x∈l,¬s x.2)->bJ s H g H (g.sets l)
 |[],_,_,_=>.ext .refl
 |x::l,g,h,k=>(bJ.set (h x kf)).trans (bJ.sets l (λy a=>by
   by_cases e:y.1=x.1
   ·erw[aj e,aj gS,<-k x kf]
   ·erw[aj (fA e)];exact h y (fV a)) λy a=>k y (fV a))
theorem Claim.sets{H:Hp}:∀(l:List (Addr×Nat)) {g:Gh},Claim H g->(∀x∈l,H x.1≠none)->Claim H (g.sets l)
 |[],_,C,_=>C
 |x::l,_,C,h=>Claim.sets l (C.set (h x kf)) λy a=>h y (fV a)
theorem vn:∀(l:List (Addr×Nat)) {g:Gh},(g.sets l).R a=g.R a\/∃x∈l,(g.sets l).R a=x.2
 |[],_=>.inl rfl
 |x::l,g=>by
  rcases vn l with h|⟨y,b,h⟩
  ·by_cases e:a=x.1
   ·exact .inr ⟨x,kf,h.trans (aj e (aj gS rfl))⟩
   ·exact .inl (h.trans (fA e))
  ·exact .inr ⟨y,fV b,h⟩
theorem Et:∀(l:List (Addr×Nat)) {g:Gh},(∀x∈l,a≠x.1)->(g.sets l).R a=g.R a
 |[],_,_=>rfl
 |x::l,g,h=>(Et l λy b=>h y (fV b)).trans (fA (h x kf))
theorem BJ:∀(l:List (Addr×Nat)) {g:Gh},(∀x∈l,x.1=a->x.2=r)->g.R a=r->(g.sets l).R a=r
 |[],_,_,h=>h
 |x::l,g,k,h=>BJ l (λy b=>k y (fV b)) (by
   by_cases e:a=x.1
   ·erw[aj e,aj gS,<-k x kf e.symm]
   ·erw[aj (fA e)];exact h)
theorem AI:∀(l:List (Addr×Nat)) {g:Gh},l.Pairwise (λx y=>y.1=x.1->y.2=x.2)->∀x∈l,(g.sets l).R x.1=x.2
 |[],_,_,_,h=>nomatch h
 |x::l,g,p,y,hy=>by
  erw[aD (List.pairwise_cons.mp p),(b a)];rcases bE.mp hy with h|h
  ·subst h;exact BJ l (λz c=>b z c) gS
  ·exact AI l a y h
theorem CF(l:List (Addr×Nat)):∀{g:Gh},(g.sets l).en=g.en:=by
 induction l with
 |nil=>intro _;rfl
 |cons x l i=>exact i
noncomputable def Oo(b:Nat)(z:xY):List (Addr×Nat):=[(z.sl,b+5),(z.s2,b+6),(z.a,b+7),(z.A.c,b+8),(z.A.v,b+9),(z.A.l,b+10),(z.A.o,b+10),(z.A.n,b+10)]
theorem Uy(b:Nat)(z:xY):∀x∈Oo b z,b+5<=x.2/\x.2<=b+10:=by
 have h:∀{k:Nat} {a:Addr},5<=k/\k<=10->b+5<=(a,b+k).2/\(a,b+k).2<=b+10:=λu=>⟨cV u.1 b,cV u.2 b⟩;exact aL (h (dc rfl)) (aL (h (dc rfl)) (aL (h (dc rfl)) (aL (h (dc rfl)) (aL (h (dc rfl)) (aL (h (dc rfl)) (aL (h (dc rfl)) (aL (h (dc rfl)) fL)))))))
noncomputable def snE(b:Nat)(a:Addr)(A:BM):List (Addr×Nat):=[(a,b+7),(A.c,b+8),(A.v,b+9),(A.l,b+10),(A.o,b+10),(A.n,b+10)]
theorem Br.pw(h:Br H a A s)(f:s.ids≠[])(b:Nat):(snE b a A).Pairwise (λx y=>y.1=x.1->y.2=x.2):=by
 rcases h with⟨a3,a4⟩
 rcases a4 with⟨c1,c2,c3,c4,c5⟩
 have d:iv s.ids≠iv []:=λe=>f (List.map_eq_nil_iff.mp e);have c:∀{x y:Addr} {p q:MO},H x=some p->H y=some q->p≠q->y=x->False:=λp q n e=>fU p q n e.symm;unfold snE;refine .cons ?_ (.cons ?_ (.cons ?_ (.cons ?_ (.cons ?_ (.cons ?_ .nil)))))
 ·exact aL (λe=>(c a3 c1 (λq=>by cases q) e).elim) (aL (λe=>(c a3 c2 (λq=>by injection q) e).elim) (aL (λe=>(c a3 c3 (λq=>by injection q) e).elim) (aL (λe=>(c a3 c4 (λq=>by injection q) e).elim) (aL (λe=>(c a3 c5 (λq=>by injection q) e).elim) fL))))
 ·exact aL (λe=>(c c1 c2 (λq=>by injection q) e).elim) (aL (λe=>(c c1 c3 (λq=>by injection q) e).elim) (aL (λe=>(c c1 c4 (λq=>by injection q) e).elim) (aL (λe=>(c c1 c5 (λq=>by injection q) e).elim) fL)))
 ·have nl:MO.list (iv s.ids)≠.list (iv []):=λq=>d (by injection q);exact aL (λe=>(c c2 c3 nl e).elim) (aL (λe=>(c c2 c4 nl e).elim) (aL (λe=>(c c2 c5 nl e).elim) fL))
 ·exact aL (λ_=>rfl) (aL (λ_=>rfl) fL)
 ·exact aL (λ_=>rfl) fL
 ·exact fL
theorem nT.pw{H:Hp}(h:nT H z s)(f:X2 H0 z.a z.A)(g:H0 z.sl≠none)(k:H0 z.s2≠none)(C:s.ids≠[])(b:Nat):(Oo b z).Pairwise (λx y=>y.1=x.1->y.2=x.2):=by
 rcases h with⟨a1,a2,sh⟩
 erw[GA ⟨f.o,f.co.c,f.co.v,f.co.l,f.co.o,f.co.n⟩,(B w u t r m)];have d:∀{x y:Addr},H0 x≠none->H0 y=none->y=x->False:=λp q e=>p (c_ e q);refine .cons ?_ (.cons ?_ (sh.pw C b))
 ·erw[<-aL (λe=>?_) (aL (λe=>(d g B e).elim) (aL (λe=>(d g w e).elim) (aL (λe=>(d g u e).elim) (aL (λe=>(d g t e).elim) (aL (λe=>(d g r e).elim) (aL (λe=>(d g m e).elim) fL)))))),<-(fU a1 a2 (λq=>?_) e.symm).elim];injection q with q
  have q:=congrArg (λl:List V=>l[2]?) q;unfold iv at q;rw[cP] at q;cases j:s.ids[2]? with
  |none=>rw[j] at q;injection q
  |some i=>rw[j] at q;cases q
 ·exact aL (λe=>(d k B e).elim) (aL (λe=>(d k w e).elim) (aL (λe=>(d k u e).elim) (aL (λe=>(d k t e).elim) (aL (λe=>(d k r e).elim) (aL (λe=>(d k m e).elim) fL)))))
theorem lS.of(p:(Oo b z).Pairwise (λx y=>y.1=x.1->y.2=x.2)):lS (g.sets (Oo b z)).R b z:=
 have m:=AI (Oo b z) p
 ⟨m (z.sl,b+5) kf,m (z.s2,b+6) (fV kf),m (z.a,b+7) (fV (fV kf)),m (z.A.c,b+8) (fV (fV (fV kf))),m (z.A.v,b+9) (fV (fV (fV (fV kf)))),
  m (z.A.l,b+10) (fV (fV (fV (fV (fV kf))))),m (z.A.o,b+10) (fV (fV (fV (fV (fV (fV kf)))))),m (z.A.n,b+10) (fV (fV (fV (fV (fV (fV (fV kf)))))))⟩
section
variable{G:Hp}
theorem nT.row(r:lS g.R b z)(h:nT H z s)(e1:s'.ids=s.ids)(e2:s'.u=s.u):nT (upd (upd H z.sl (.list (s'.vs z.s2))) z.a (s'.O z.A.c)) z s':=by
 have st:∀x n m,g.R x=n->n≠b+5->n≠b+7->H x=some m->(upd (upd H z.sl (.list (s'.vs z.s2))) z.a (s'.O z.A.c)) x=some m:=λx n m e f d q=>
  ae (λz=>d (c_ e (aj z (aj r.a rfl)))) (ae (λz=>f (c_ e (aj z (aj r.sl rfl)))) q)
 rcases h with⟨a1,a2,⟨a3,⟨c1,c2,c3,c4,c5⟩⟩⟩
 refine⟨ae (bX r.sl r.a (nS rfl)) us,?_,⟨us,⟨?_,?_,st _ _ _ r.l (nS rfl) (nS rfl) c3,st _ _ _ r.o (nS rfl) (nS rfl) c4,st _ _ _ r.n (nS rfl) (nS rfl) c5⟩⟩⟩
 ·erw[aj e1,<-st _ _ _ r.s2 (nS rfl) (nS rfl) a2]
 ·erw[aj e2,<-st _ _ _ r.c (nS rfl) (nS rfl) c1]
 ·erw[aj e1,<-st _ _ _ r.v (nS rfl) (nS rfl) c2]
theorem nT.auto(r:lS g.R b z)(h:nT H z s)(e1:s'.ids=s.ids)(e2:s'.O z.A.c=s.O z.A.c):nT (upd (upd H z.sl (.list (s'.vs z.s2))) z.A.c (z.A.O s'.u)) z s':=by
 have st:∀x n m,g.R x=n->n≠b+5->n≠b+8->H x=some m->(upd (upd H z.sl (.list (s'.vs z.s2))) z.A.c (z.A.O s'.u)) x=some m:=λx n m e f d q=>
  ae (λz=>d (c_ e (aj z (aj r.c rfl)))) (ae (λz=>f (c_ e (aj z (aj r.sl rfl)))) q)
 rcases h with⟨a1,a2,⟨a3,⟨c1,c2,c3,c4,c5⟩⟩⟩
 refine⟨ae (bX r.sl r.c (nS rfl)) us,?_,⟨?_,⟨us,?_,st _ _ _ r.l (nS rfl) (nS rfl) c3,st _ _ _ r.o (nS rfl) (nS rfl) c4,st _ _ _ r.n (nS rfl) (nS rfl) c5⟩⟩⟩
 ·erw[aj e1,<-st _ _ _ r.s2 (nS rfl) (nS rfl) a2]
 ·erw[aj e2,<-st _ _ _ r.a (nS rfl) (nS rfl) a3]
 ·erw[aj e1,<-st _ _ _ r.v (nS rfl) (nS rfl) c2]
theorem nT.more(r:lS g.R b z)(h:nT H z s)(e1:s'.vs z.s2=s.vs z.s2)(e2:s'.O z.A.c=s.O z.A.c)(e3:s'.u=s.u):nT (upd (upd H z.s2 (.list (iv s'.ids))) z.A.v (.list (iv s'.ids))) z s':=by
 have st:∀x n m,g.R x=n->n≠b+6->n≠b+9->H x=some m->(upd (upd H z.s2 (.list (iv s'.ids))) z.A.v (.list (iv s'.ids))) x=some m:=λx n m e f d q=>
  ae (λz=>d (c_ e (aj z (aj r.v rfl)))) (ae (λz=>f (c_ e (aj z (aj r.s2 rfl)))) q)
 rcases h with⟨a1,a2,⟨a3,⟨c1,c2,c3,c4,c5⟩⟩⟩
 refine⟨?_,ae (bX r.s2 r.v (nS rfl)) us,⟨?_,⟨?_,us,st _ _ _ r.l (nS rfl) (nS rfl) c3,st _ _ _ r.o (nS rfl) (nS rfl) c4,st _ _ _ r.n (nS rfl) (nS rfl) c5⟩⟩⟩
 ·erw[aj e1,<-st _ _ _ r.sl (nS rfl) (nS rfl) a1]
 ·erw[aj e2,<-st _ _ _ r.a (nS rfl) (nS rfl) a3]
 ·erw[aj e3,<-st _ _ _ r.c (nS rfl) (nS rfl) c1]
theorem ja.zO(x:ja H g b A h sn rej cj)(z:Option xY)(k:bJ (λn=>n=1\/n=3\/(b+2<=n/\n<=b+4)) H g H' g')(f:H' A.gl=some (.list ((A.zO z).gv rej cj)))(e:H' A.m=some (dE h A.me (yR z) rej cj))(d:g'.R A.gl=b)(c:g'.R A.m=b+1)(s:tY H' z E_)(a:∀y,z=some y->lS g'.R b y):ja H' g' b (A.zO z) h E_ rej cj:=by
 rcases x with⟨a1,a2,a3,a4,a5,a6,a7,r1,r2,r3,r4,r5,r6⟩
 exact⟨f,e,k.h A.nu _ (aj r3 Vx) a3,k.h A.g3 _ (aj r4 Xn) a4,k.h A.me _ (aj r5 Wm) a5,λt h=>(a6 t h).keep k (.inl rfl) (.inr (.inl rfl)),s,d,c,(k.r A.nu (aj r3 Vx)).trans r3,(k.r A.g3 (aj r4 Xn)).trans r4,(k.r A.me (aj r5 Wm)).trans r5,a⟩
theorem Ih(n:l≠[]):MC (iv l) ((l.length:Int)-1)=some (.int (l.getLast n)):=by
 have hl:=nR.mpr n;unfold MC;erw[aj (if_pos (oZ [(ys (yn 0),cN)] (yn 0,.sub cN (yn 1)) rt (aU.mpr hl))),aj (show((l.length:Int)-1).toNat=l.length-1 from Int.toNat_sub l.length 1),aj (cP),aj (bx (fp [(zs av,aX)] (zs av,aX) rt (aa (bM (dK [(zs (zn 0),av)] (zn 1,av) rt hl)))))];rewrite[List.getLast_eq_getElem];rfl
theorem As(l:List Int):(iv l).length=l.length:=by unfold iv;rw[aq]
theorem xh.snoc(I:xh l)(n:l≠[])(h:l.getLast n<v)(hl:l.length+1<=30)(c:rG v):xh (l++[v]):=by
 refine⟨mD.mpr ⟨I.up,fE _ _,λa ha b d=>?_⟩,by erw[aj ah,aj aW,<-hl],λi hi=>?_⟩
 ·erw[aj (aR.mp d)];have e:=List.dropLast_concat_getLast n;have u:=I.up;rw[<-e] at u ha;rcases cC.mp ha with ha|ha
  ·exact Int.lt_trans ((mD.mp u).2.2 a ha _ kf) h
  ·erw[aj (aR.mp ha),<-h]
 ·rcases cC.mp hi with hi|hi
  ·exact I.Hx i hi
  ·erw[aj (aR.mp hi),<-c]
theorem B1(R:Rd af w K){sl s2:Addr}(cl:Claim H g)(M:ja H g 20 A h sn rej cj)(I:g.R sl=0)(G:g.R s2=0)(h1:H sl=some (.list (s.vs s2)))(h2:H s2=some (.list (iv s.ids)))(Ok:s.Ok)(nn:s.ids≠[])(j:aB 2 n=true)(q:∀d t z,bJ (λn=>n≠0/\n<=24/\n≠20/\n≠21) H g d t->t.en=g.en->(∀a,t.R a=g.R a\/25<=t.R a)->Claim d t->ja d t 20 (A.zO (some z)) h (some s) rej cj->Q .none d):aZ af w K n 892 [.ref A.gl,.ref sl] H Q X:=by
 have u:sl≠A.gl:=λe=>by have:=M.rg;rw[<-e,I] at this;injection this
 have ng:s2≠A.gl:=λe=>by have:=M.rg;rw[<-e,G] at this;injection this
 have J:sl≠A.m:=λe=>by have:=M.rm;rw[<-e,I] at this;injection this
 have nm:s2≠A.m:=λe=>by have:=M.rm;rw[<-e,G] at this;injection this
 erw[La R M.hg M.hm h1 h2 Ok.ids u ng j,(d a C k f E m' sh)];have B:nT d ⟨sl,s2,a,C⟩ s:=⟨k _ _ u J h1,k _ _ ng nm h2,sh⟩;have pw:=B.pw f (aj h1 (λe=>nomatch e)) (aj h2 (λe=>nomatch e)) nn 20;have r0:∀x∈Oo 20 ⟨sl,s2,a,C⟩,g.R x.1=0:=aL I (aL G (aL (cl.fresh f.o) (aL (cl.fresh f.co.c) (aL (cl.fresh f.co.v) (aL (cl.fresh f.co.l) (aL (cl.fresh f.co.o) (aL (cl.fresh f.co.n) fL)))))));have r1:∀x∈Oo 20 ⟨sl,s2,a,C⟩,25<=x.2:=λx i=>(Uy 20 _ x i).1;have L:∀{S:Nat->Prop},(∀n,S n->n≠0/\n<=24)->bJ S H g H (g.sets (Oo 20 ⟨sl,s2,a,C⟩)):=λz=>.sets _ (λx i e=>(z _ e).1 (r0 x i)) λx i e=>absurd (z _ e).2 (tM.mpr (r1 x i));have kq:∀{S:Nat->Prop},(∀n,S n->n≠0/\n<=24/\n≠20/\n≠21)->bJ S H g d (g.sets (Oo 20 ⟨sl,s2,a,C⟩)):=λz=>⟨(L λn j=>⟨(z n j).1,(z n j).2.1⟩).r,(L λn j=>⟨(z n j).1,(z n j).2.1⟩).m,λb F p hq=>k b F (λe=>by rw[e,M.rg] at p;exact(z _ p).2.2.1 rfl) (λe=>by rw[e,M.rm] at p;exact(z _ p).2.2.2 rfl) hq⟩;have rk:=L (S:=λn=>20<=n/\n<=24) λn h=>by exact⟨λO=>cH [(zn 20,av),(av,zn 0)] rt h.1 (aa O),h.2⟩
 refine q d _ ⟨sl,s2,a,C⟩ (kq λ_ h=>h) (CF _) (λb=>?_) (Claim.sets _ ⟨λb p q=>?_⟩ ?_) (M.zO _ (kq λn h=>by exact⟨λW=>h.elim (λV=>cH [(av,zn 0),(zn 1,av)] rt (aa W) (aa (ao V))) (λV=>V.elim (λT=>cH [(av,zn 0),(zn 3,av)] rt (aa W) (aa (ao T))) (λT=>cH [(av,zn 0),(zk (zn 20) 2,av)] rt (aa W) T.1)),⟨h.elim (λRV=>dK [(av,zn 1)] (av,zn 24) rt (aa RV)) (λRV=>RV.elim (λR6=>dK [(av,zn 3)] (av,zn 24) rt (aa R6)) (λR6=>dK [(av,zk (zn 20) 4)] (av,zn 24) rt R6.2)),⟨λSG=>h.elim (λP=>cH [(zn 20,av),(av,zn 1)] rt (aa (ao SG)) (aa P)) (λP=>P.elim (λY=>cH [(zn 20,av),(av,zn 3)] rt (aa (ao SG)) (aa Y)) (λY=>cH [(av,zn 20),(zk (zn 20) 2,av)] rt (aa SG) Y.1)),λSI=>h.elim (λU=>cH [(zn 21,av),(av,zn 1)] rt (aa (ao SI)) (aa U)) (λU=>U.elim (λRJ=>cH [(zn 21,av),(av,zn 3)] rt (aa (ao SI)) (aa RJ)) (λRJ=>cH [(av,zn 21),(zk (zn 20) 2,av)] rt (aa SI) RJ.1))⟩⟩⟩) E m' ((rk.r _ (aj M.rg (dc rfl))).trans M.rg) ((rk.r _ (aj M.rm (dc rfl))).trans M.rm) B λy N=>by injection N with N;subst N;exact .of pw)
 ·rcases vn (Oo 20 ⟨sl,s2,a,C⟩) with e|⟨x,i,e⟩
  ·exact .inl e
  ·exact .inr (aj e (r1 x i))
 ·by_cases e1:b=A.gl
  ·rw[e1,E] at q;injection q
  ·by_cases e2:b=A.m
   ·rw[e2,m'] at q;injection q
   ·cases D:H b with
    |none=>exact cl.c b p D
    |some F=>rw[k _ _ e1 e2 D] at q;injection q
 ·have sm:∀{x:Addr} {F:MO},d x=some F->d x≠none:=λe q=>by rw[e] at q;injection q
  exact aL (sm B.sl) (aL (sm B.s2) (aL (sm B.sn.o) (aL (sm B.sn.co.c) (aL (sm B.sn.co.v) (aL (sm B.sn.co.l) (aL (sm B.sn.co.o) (aL (sm B.sn.co.n) fL)))))))
theorem Me(R:Rd af w K)(I:Inv nz pl ga ka wa t H g)(ht:t<=20)(hy:y<2^39)(L:aB 10 n=true)(q:∀H' g',Inv nz pl ga ka wa (t+1) H' g'->Q (.bool true) H'):aZ af w K n 960 [.ref ga,.int (y:Int)] H Q X:=by
 erw[R.pj.to rfl L,(n L),iS I.msg,(A h sn x P eK M p)];subst eK;have h6:(A.gv x P).length<=100000:=dc rfl;have U4:y / 5<2^39:=v9 hy 5;have hm5:y%5<5:=kv;have Oh:A.m≠A.gl:=bX M.rm M.rg (dc rfl);have U:∀(F:Hp)(N:Gh)(A1:CB)(J:Option Sn)(ρ:Loc),bJ (λn=>1<=n/\n<=14) H g F N->N.en=g.en->(∀a,N.R a=g.R a\/13<N.R a\/N.R a=0)->Claim F N->A1.gl=A.gl->ja F N 20 A1 h J x P->jz h J P A1.tr (t+1)->ρ 0=some (.ref A.gl)->bN af w K aH n [dj (bD 878 [aN])] ρ F (dF Q) (cG X):=λF N A1 J ρ k1 e1 b1 cl ea M1 p1 r0=>by
  have I1:=I.xI k1 e1 b1 cl (mJ _) ⟨A1,h,J,x,P,ea,M1,p1⟩;rw[<-ea] at r0;erw[Zt,<-Zz r0 ?_,sN R (M1.mb I1.cells) (ja.big (C:=I1.cells) M1 p1) (lv L rfl),<-bH Ext.refl (q _ _ I1)]
 have f:=M.hs;have rs:=M.rs;have Fe:=M.hg;have hm:=M.hm;erw[Zg,Zs rfl rfl,dI (y:=5) rfl,Zg,Zs rfl rfl,dT (y:=5) rfl (iQ hy).big rfl,Zg,Zf rfl rfl,ax (v:=MN A.sa) Fe h6 rfl];cases Y:A.sa with
 |none=>
  cases xd:sn with
  |some _=>rw[Y,xd] at f;exact f.elim
  |none=>
  erw[Zh,ZS,Zc rfl,lg rfl,Zp,Zk,Zq,Zr rfl,Za,eR rfl,Za,Zz rfl,jf R (iQ U4) (lv L rfl),(v1 JV),Za,Zq,Za,Zs rfl rfl,dT (y:=3) rfl (iQ U4).big rfl,Zb,jf R (iQ (v9 U4 3)) (lv L rfl),(v2 JY),Za,eR rfl,Za,ZI rfl,Zs rfl rfl,dI (y:=200) rfl,Zw,Zb,(s2 DM),Za,Zah rfl,Zs rfl rfl,dI (y:=2) rfl];have br:∀{a b:Int} {G:Bool->Prop} {H:Hp},(∀u:Bool,G u)->jH .Eq (.int a) (.int b) H G:=λh=>cq (λ_=>h true) λ_=>h false;erw[br,(u),Za,Zz rfl,mv R (iQ U4) (lv L rfl),(d hd),Zb,(sl l)];have e2:([.int (1+((y / 5%200:Nat):Int))]:List V)=iv [1+((y / 5%200:Nat):Int)]:=rfl;rw[e2] at l⊢;have abt:y / 5%200<200:=kv;generalize nU:([1+((y / 5%200:Nat):Int)]:List Int)=ids at l⊢;have Iid:xh ids:=by
   erw[c_ nU,<-⟨fE _ _,by show 1<=30;decide,λi hi=>by erw[aj (aR.mp hi),<-⟨by exact YK,by exact aw.mpr (dK [(zs av,zn 200)] (zp (zn 1) av,zn 18446744073709551615) rt kv)⟩]⟩]
  erw[aD (bo l),(sl1 X4)];have e3:([.int (v1:Int),.int (v2:Int),.ref s2,.bool u,.bytes d]:List V)=(Sn.mk (v1:Int) (v2:Int) ids u d).vs s2:=rfl;erw[aj e3];generalize Yn:Sn.mk (v1:Int) (v2:Int) ids u d=s;have es:s.ids=ids:=by refine' c_ Yn ?_;rfl
  have x2:Ext H (upd (upd H s2 (.list (iv ids))) sl (.list (s.vs s2))):=(Ext.fresh Ext.refl DM).trans (Ext.fresh Ext.refl l);have c2:(upd (upd H s2 (.list (iv ids))) sl (.list (s.vs s2))) s2=some (.list (iv ids)):=ae (aJ X4) us;have c1:(upd (upd H s2 (.list (iv ids))) sl (.list (s.vs s2))) sl=some (.list (s.vs s2)):=us;have j:s.Ok:=by
   erw[c_ Yn,<-⟨⟨gV,by exact o6 JV⟩,⟨gV,by exact o6 JY⟩,Iid,by exact dM hd rfl⟩]
  have Nm:=I.claim.ext x2;have M2:=M.keep (.ext x2);erw[B1 R Nm M2 (I.claim.fresh sl1) (I.claim.fresh DM) c1 (aj es c2) j (aj es (c_ nU (λe=>(nomatch e)))) (lv L rfl),(H' g' z k e b cl' M')];have kx:=(bJ.ext x2).trans (k.sub λn h=>by exact Yx h)
  repeat (first|with_reducible refine' Ze ?_|with_reducible refine' Zd ?_)
  refine U H' g' (A.zO (some z)) (some s) _ kx e (λa=>?_) cl' rfl M' ⟨p.hi,p.zx,p.len,λs' E=>by
   injection E with E;subst E
   refine⟨j,(aj es (c_ nU (λe=>(nomatch e)))),?_,?_⟩
   ·erw[aj es,c_ nU,<-dK [] (zn 1,zs av) rt]
   ·erw[aj es,c_ nU,(i hi),aj (aR.mp hi)];exact aw.mpr (fp [(zs av,zn 200)] (zp (zn 1) av,zm 200 (zs aX)) rt kv),p.c⟩ rfl
  rcases b a with h|h
  ·exact .inl h
  ·exact .inr (.inl (dK [(zn 25,av)] (zs (zn 13),av) rt h))
 |some z=>
  cases xd:sn with
  |none=>rw[Y,xd] at f;exact f.elim
  |some s=>
  rw[Y,xd] at f;have r:=rs z Y;have f:nT H z s:=f;have l:=f.sl;erw[dY (p.so s xd),(j D T ib)];have h5:(s.vs z.s2).length<=100000:=dc rfl;have W:=hm;rw[Y] at W;unfold dE at W;have n1:z.sl≠A.gl:=bX r.sl M.rg (dc rfl);have n2:z.sl≠A.m:=bX r.sl M.rm (dc rfl);have n3:z.sl≠z.a:=bX r.sl r.a (dc rfl);have n4:z.sl≠z.A.c:=bX r.sl r.c (dc rfl);have n5:z.s2≠z.sl:=bX r.s2 r.sl (dc rfl);have n6:z.s2≠A.gl:=bX r.s2 M.rg (dc rfl);have n7:z.s2≠A.m:=bX r.s2 M.rm (dc rfl);have n8:z.s2≠z.a:=bX r.s2 r.a (dc rfl);have n9:z.s2≠z.A.c:=bX r.s2 r.c (dc rfl);have n10:z.s2≠z.A.v:=bX r.s2 r.v (dc rfl);have WO:=f.sn.o;have Lx:=f.sn.co.c;unfold Sn.O at WO;unfold BM.O at Lx;have done:∀(F:Hp)(s1:Sn)(ρ:Loc),(∀{S:Nat->Prop},(∀n,S n->n<=24)->bJ S H g F g)->Claim F g->nT F z s1->s1.Ok->s1.ids≠[]->s1.ids.length<=t+1+1->(∀i∈s1.ids,i<=200*((t+1:Nat)+1))->ρ 0=some (.ref A.gl)->bN af w K aH n [dj (bD 878 [aN])] ρ F (dF Q) (cG X):=λF s1 ρ kk cl B o1 o2 o3 o4 r0=>
   U F g A (some s1) ρ (kk λn h=>by exact dK [(av,zn 14)] (av,zn 24) rt h.2) rfl (λ_=>.inl rfl) cl rfl (M.abA (kk λn h=>by exact h.elim (λUP=>dK [(av,zn 1)] (av,zn 24) rt (aa UP)) (λUP=>UP.elim (λUj=>dK [(av,zn 3)] (av,zn 24) rt (aa Uj)) (λUj=>dK [(av,zk (zn 20) 4)] (av,zn 24) rt Uj.2))) (aj Y B)) ⟨p.hi,p.zx,p.len,λs' E=>by
    injection E with E;subst E
    exact⟨o1,o2,o3,o4⟩,p.c⟩ r0
  have up:∀{i:Int},i∈s.ids->i<=200*((t+1:Nat)+1):=λhi=>by have:=ib _ hi;exact Wq this
  erw[Zh,ZS,Zc rfl,lg rfl,Zi,Zh,Zj rfl rfl,<-cq (λe=>?_) (λe=>?_)]
  ·erw[Zp,ZJ,Zq,Za,Zf rfl rfl,ax (v:=.int s.i) l h5 rfl,ZF rfl,iC R j.i U4 (lv L rfl),(v hv),Zc rfl,ZA,jc l h5 (dc rfl) (dc rfl),Zu,Zf rfl rfl,ax us (dc rfl) rfl,Z6,Zf rfl rfl,ax (v:=.ref A.m) (ae (aJ n1) Fe) h6 rfl,aO (ae (aJ n2) W) rfl rfl,bQ (ae (aJ n3) WO) rfl rfl]
   repeat (first|with_reducible refine' Ze ?_|with_reducible refine' Zd ?_)
   refine done (upd (upd H z.sl (.list ((Sn.mk (v:Int) s.t s.ids s.u s.d).vs z.s2))) z.a ((Sn.mk (v:Int) s.t s.ids s.u s.d).O z.A.c)) _ _ (λhS=>(bJ.upd (λq=>?_)).trans (bJ.upd (λq=>?_))) I.claim.upd.upd (nT.row r f rfl rfl) ⟨⟨gV,by exact o6 hv⟩,j.t,j.ids,j.d⟩ D (by exact U8 T) (λi hi=>up hi) rfl
   ·have:=hS _ q;rw[r.sl] at this;exact Um this
   ·have:=hS _ q;rw[r.a] at this;exact Xq this
  ·erw[Zi,Zh,Zj rfl rfl,<-cq (λe=>?_) (λe=>?_)]
   ·erw[Zp,ZJ,Zq,Za,Zf rfl rfl,ax (v:=.bytes s.d) l h5 rfl,ZF rfl,i8 R j.d (iQ U4) (lv L rfl),(d hd),Zc rfl,ZA,jc l h5 (dc rfl) (dc rfl),Zu,Zf rfl rfl,ax (v:=.bytes d) us (dc rfl) rfl,Z6,Zf rfl rfl,ax (v:=.ref A.m) (ae (aJ n1) Fe) h6 rfl,aO (ae (aJ n2) W) rfl rfl,bQ (ae (aJ n3) WO) rfl rfl]
    repeat (first|with_reducible refine' Ze ?_|with_reducible refine' Zd ?_)
    refine done (upd (upd H z.sl (.list ((Sn.mk s.i s.t s.ids s.u d).vs z.s2))) z.a ((Sn.mk s.i s.t s.ids s.u d).O z.A.c)) _ _ (λhS=>(bJ.upd (λq=>?_)).trans (bJ.upd (λq=>?_))) I.claim.upd.upd (nT.row r f rfl rfl) ⟨j.i,j.t,j.ids,by exact dM hd rfl⟩ D (by exact U8 T) (λi hi=>up hi) rfl
    ·have:=hS _ q;rw[r.sl] at this;exact Um this
    ·have:=hS _ q;rw[r.a] at this;exact Xq this
   ·erw[Zi,Zh,Zj rfl rfl,<-cq (λe=>?_) (λe=>?_)]
    ·have PT:(iv s.ids).length<=100000:=by rw[As];exact fp [(av,zn 20),(aX,zs av)] (aX,zn 100000) rt ht T
     have abt:y / 5%200<200:=kv;erw[ay (eO (j.ids.Hx _ (List.getLast_mem D))),(ln eln lln)];have lib:=ib _ (List.getLast_mem D);erw[Zp,Zk,Zm,Zf rfl rfl,ax (v:=.ref z.s2) l h5 rfl,<-o7 f.s2 ⟨rfl,?_⟩,Za,ZC,Zv rfl,Z5,Zf rfl rfl,ax (v:=.ref z.s2) l h5 rfl,Zv rfl,ZN,Za,Zf rfl rfl,ax (v:=.ref z.s2) l h5 rfl,Zb,dW f.s2 PT];rw[As];erw[Z3,ax f.s2 PT (Ih D),Zw,Zs rfl rfl,dI (y:=200) rfl,Zw,Zb,qV f.s2 PT];have ea:iv s.ids++[V.int (s.ids.getLast D+1+((y / 5%200:Nat):Int))]=iv (s.ids++[s.ids.getLast D+1+((y / 5%200:Nat):Int)]):=by unfold iv;refine' aj aY ?_;rfl
     erw[aj ea];have nn2:s.ids++[s.ids.getLast D+1+((y / 5%200:Nat):Int)]≠[]:=λe=>by
      have:=congrArg cF e;rw[ah] at this;injection this
     have Wt:=cX H z.s2 (MO.list (iv (s.ids++[s.ids.getLast D+1+((y / 5%200:Nat):Int)])));have V0:(iv (s.ids++[s.ids.getLast D+1+((y / 5%200:Nat):Int)])).length<=100000:=by rewrite[As];refine' aj ah ?_;refine' aj aW ?_;exact fp [(av,zn 20),(aX,zs av)] (zs aX,zn 100000) rt ht T
     have W4:=ae (b:=z.s2) (mo:=(MO.list (iv (s.ids++[s.ids.getLast D+1+((y / 5%200:Nat):Int)])))) (aJ n5) l;erw[ax (v:=.ref A.m) (ae (aJ n6) Fe) h6 rfl,aO (ae (aJ n7) W) rfl rfl,aO (ae (aJ n8) WO) rfl rfl,aO (ae (aJ n9) Lx) rfl rfl,<-o7 (ae (aJ n10) f.sn.co.v) ⟨rfl,?_⟩,Za,Z5,Zf rfl rfl,ax (v:=.ref z.s2) W4 h5 rfl,Zv rfl,ZN,Za,Zf rfl rfl,ax (v:=.ref z.s2) W4 h5 rfl,Zb,dW Wt V0];rw[As];erw[Z3,ax Wt V0 (Ih nn2),aj List.getLast_concat,Zb,qV (ae (aJ n10) f.sn.co.v) PT,aj ea]
     repeat (first|with_reducible refine' Ze ?_|with_reducible refine' Zd ?_)
     refine done _ ⟨s.i,s.t,s.ids++[s.ids.getLast D+1+((y / 5%200:Nat):Int)],s.u,s.d⟩ _ (λhS=>(bJ.upd (λq=>?_)).trans (bJ.upd (λq=>?_))) I.claim.upd.upd (nT.more (s':=⟨s.i,s.t,s.ids++[s.ids.getLast D+1+((y / 5%200:Nat):Int)],s.u,s.d⟩) r f rfl rfl rfl) ⟨j.i,j.t,j.ids.snoc D (oE [(yn 0,cN)] (ys dX,yp (ys dX) cN) rt gV) (fp [(av,zn 20),(aX,zs av)] (zs aX,zn 30) rt ht T) ⟨by exact jY [(yn 0,cN),(cN,dX),(yn 0,fY)] (yn 0,yp (ys dX) fY) rt gV (aG (ao eln)) gV,by exact jY [(cN,ym 200 (ys dX)),(ym 200 dX,ym 200 (yn 20)),(ys fY,yn 200)] (yp (ys cN) fY,yn 18446744073709551615) rt lib (d9 (aw.mpr ht) (d0 200)) (aU.mpr kv)⟩,j.d⟩ nn2 ?_ (λi hi=>?_) rfl
     ·have:=hS _ q;rw[r.s2] at this;exact DE [(zk (zn 20) 6,zn 24)] rt this
     ·have:=hS _ q;rw[r.v] at this;exact DE [(zk (zn 20) 9,zn 24)] rt this
     ·show(s.ids++[_]).length<=_;erw[aj ah,aj aW,<-Ry T]
     ·rcases cC.mp hi with hi|hi
      ·exact up hi
      ·erw[aj (aR.mp hi),<-Al [(cN,ym 200 (ys dX)),(ym 200 (ys dX),ym 200 fY),(ys vH,yn 200)] (yp (ys cN) vH,ym 200 (ys fY)) rt lib (d9 (aG (ao (bh _ _))) (d0 200)) (aU.mpr kv)]
    ·erw[Zi,Zh,Zj rfl rfl,<-cq (λe=>?_) (λe=>?_)]
     ·erw[Zp,ZJ,Zas,Zf rfl rfl,ax (v:=.bool s.u) l h5 rfl,Zx,Zc rfl,ZA,jc l h5 (dc rfl) (dc rfl),Zu,Zf rfl rfl,ax us (dc rfl) rfl,Z6,Z6,Zf rfl rfl,ax (v:=.ref A.m) (ae (aJ n1) Fe) h6 rfl,aO (ae (aJ n2) W) rfl rfl,aO (ae (aJ n3) WO) rfl rfl,bQ (ae (aJ n4) Lx) rfl rfl]
      repeat (first|with_reducible refine' Ze ?_|with_reducible refine' Zd ?_)
      refine done (upd (upd H z.sl (.list ((Sn.mk s.i s.t s.ids (!s.u) s.d).vs z.s2))) z.A.c (z.A.O (!s.u))) ⟨s.i,s.t,s.ids,!s.u,s.d⟩ _ (λhS=>(bJ.upd (λq=>?_)).trans (bJ.upd (λq=>?_))) I.claim.upd.upd (nT.auto r f rfl rfl) ⟨j.i,j.t,j.ids,j.d⟩ D (by exact U8 T) (λi hi=>up hi) rfl
      ·have:=hS _ q;rw[r.sl] at this;exact Um this
      ·have:=hS _ q;rw[r.c] at this;exact DE [(zk (zn 20) 8,zn 24)] rt this
     ·erw[Zi,ZJ,ZA,Zc rfl,ZA,jc Fe h6 (dc rfl) (dc rfl),Zu,ZA,Zf rfl rfl,ax (v:=.ref A.m) us h6 rfl,bQ (ae Oh W) rfl rfl];have kk:∀{S:Nat->Prop},¬S 20->¬S 21->bJ S H g (upd (upd H A.gl (.list ((A.zO none).gv x P))) A.m (dE h A.me .none x P)) g:=λs1 s2=>(bJ.upd (aj M.rg s1)).trans (bJ.upd (aj M.rm s2))
      repeat (first|with_reducible refine' Ze ?_|with_reducible refine' Zd ?_)
      exact U (upd (upd H A.gl (.list ((A.zO none).gv x P))) A.m (dE h A.me .none x P)) g (A.zO none) none _ (kk (dc rfl) (dc rfl)) rfl (λ_=>.inl rfl) I.claim.upd.upd rfl (M.zO none (kk (dc rfl) (dc rfl)) (ae (aJ Oh) us) us M.rg M.rm trivial (λ_ h=>nomatch h)) ⟨p.hi,p.zx,p.len,(λ_ h=>nomatch h),p.c⟩ rfl
end
section
variable{G:Hp}
noncomputable def cmz(vs:List V):MO:=.inst 627 (([2,21,22,23,24,25]:List Nat).zip vs)
theorem wK(R:Rd af w K)(M:Kb H A c)(i:f<=5)(g:aB 0 n=true)(q:Q .none (upd (upd H A.kr (.list (c.vs.set f v))) A.cm (cmz (c.vs.set f v)))):aZ af w K n 899 [.ref A.kl,.int (f:Int),v] H Q X:=by
 erw[R.NT.to rfl g,(n g)];rcases M with⟨hk,hc,hr⟩
 have h2:([V.ref A.cm,.ref A.kr]).length<=100000:=dc rfl;have h6:c.vs.length<=100000:=dc rfl;have G:∀y,(upd H A.kr y) A.kl=some (.list [.ref A.cm,.ref A.kr]):=λy=>ae (fU hk hr (λz=>by cases z)) hk;have nm:=fU hc hr (λz=>by injection z);unfold Cm.o at hc;erw[ax hk h2 rfl,Zc rfl,jc hr h6 gV (by exact aU.mpr (dK [(av,zn 5)] (zs av,zn 6) rt i))];rw[aM];have d:∀{a b:Nat} {P:Prop},ip a b=false->a=(b:Int)->P:=λh e=>by
  have:=Int.natCast_inj.mp e;rw[this,Nat.beq_refl] at h;injection h
 revert q;refine nb6 (gp i) ?_ ?_ ?_ ?_ ?_ ?_
 ·erw[(q),Zh,Zj rfl rfl,<-cq (λ_=>?_) (λz=>absurd rfl z),ax (G _) h2 rfl,bQ (ae nm hc) rfl rfl,Ze,Zd,Ze,<-cR Ext.refl q]
 ·erw[(q),Zh,Zj rfl rfl,<-cq (d rfl) (λ_=>?_),Zi,Zh,Zj rfl rfl,<-cq (λ_=>?_) (λz=>absurd rfl z),ax (G _) h2 rfl,bQ (ae nm hc) rfl rfl,<-cR Ext.refl q]
 ·erw[(q),Zh,Zj rfl rfl,<-cq (d rfl) (λ_=>?_),Zi,Zh,Zj rfl rfl,<-cq (d rfl) (λ_=>?_),Zi,Zh,Zj rfl rfl,<-cq (λ_=>?_) (λz=>absurd rfl z),ax (G _) h2 rfl,bQ (ae nm hc) rfl rfl,<-cR Ext.refl q]
 ·erw[(q),Zh,Zj rfl rfl,<-cq (d rfl) (λ_=>?_),Zi,Zh,Zj rfl rfl,<-cq (d rfl) (λ_=>?_),Zi,Zh,Zj rfl rfl,<-cq (d rfl) (λ_=>?_),Zi,Zh,Zj rfl rfl,<-cq (λ_=>?_) (λz=>absurd rfl z),ax (G _) h2 rfl,bQ (ae nm hc) rfl rfl,<-cR Ext.refl q]
 ·erw[(q),Zh,Zj rfl rfl,<-cq (d rfl) (λ_=>?_),Zi,Zh,Zj rfl rfl,<-cq (d rfl) (λ_=>?_),Zi,Zh,Zj rfl rfl,<-cq (d rfl) (λ_=>?_),Zi,Zh,Zj rfl rfl,<-cq (d rfl) (λ_=>?_),Zi,Zh,Zj rfl rfl,<-cq (λ_=>?_) (λz=>absurd rfl z),ax (G _) h2 rfl,bQ (ae nm hc) rfl rfl,<-cR Ext.refl q]
 ·erw[(q),Zh,Zj rfl rfl,<-cq (d rfl) (λ_=>?_),Zi,Zh,Zj rfl rfl,<-cq (d rfl) (λ_=>?_),Zi,Zh,Zj rfl rfl,<-cq (d rfl) (λ_=>?_),Zi,Zh,Zj rfl rfl,<-cq (d rfl) (λ_=>?_),Zi,Zh,Zj rfl rfl,<-cq (d rfl) (λ_=>?_),ax (G _) h2 rfl,bQ (ae nm hc) rfl rfl,<-cR Ext.refl q]
theorem HO.tell(x:HO H g A c)(a:Cm):HO (upd (upd H A.kr (.list a.vs)) A.cm a.o) g A a:=
 ⟨⟨ae (bX x.rk x.rc (dc rfl)) (ae (bX x.rk x.rr (dc rfl)) x.kb.k),us,ae (bX x.rr x.rc (dc rfl)) us⟩,x.rk,x.rc,x.rr⟩
theorem Inv.Ft(I:Inv nz pl ga ka wa t H g)(k:bJ (λn=>n≠0/\n≠11/\n≠12/\n≠13) H g H' g')(he:g'.en=g.en)(hb:∀a,g'.R a=g.R a\/g'.R a=12)(C:Claim H' g')(m:∃A c,A.kl=ka/\HO H' g' A c/\c.Good):Inv nz pl ga ka wa t H' g':=by
 erw[iD I.wait,(B o es e2 w q),iS I.msg,(A h sn r cj e1 M p),bf I.y6,(ts P),<-⟨I.cells.keep (k.sub λn h=>by exact⟨λb=>cH [(zn 1,av),(av,zn 0)] rt h.1 (aa b),⟨λf=>cH [(av,zn 5),(zn 11,av)] rt h.2 (aa (ao f)),⟨λd=>cH [(av,zn 5),(zn 12,av)] rt h.2 (aa (ao d)),λe=>cH [(av,zn 5),(zn 13,av)] rt h.2 (aa (ao e))⟩⟩⟩) (λa _ _=>by erw[aj he];rfl) (λa h1 h2=>?_),C,⟨ts,P.keep (k.sub λn h=>by exact⟨λG=>h.elim (λL=>cH [(av,zn 0),(zn 1,av)] rt (aa G) (aa (ao L))) (λL=>L.elim (λU=>cH [(av,zn 0),(zn 3,av)] rt (aa G) (aa (ao U))) (λU=>cH [(av,zn 0),(zn 6,av)] rt (aa G) (aa (ao U)))),⟨λv=>h.elim (λy=>cH [(zn 11,av),(av,zn 1)] rt (aa (ao v)) (aa y)) (λy=>y.elim (λT=>cH [(zn 11,av),(av,zn 3)] rt (aa (ao v)) (aa T)) (λT=>cH [(zn 11,av),(av,zn 6)] rt (aa (ao v)) (aa T))),⟨λi=>h.elim (λu=>cH [(zn 12,av),(av,zn 1)] rt (aa (ao i)) (aa u)) (λu=>u.elim (λz=>cH [(zn 12,av),(av,zn 3)] rt (aa (ao i)) (aa z)) (λz=>cH [(zn 12,av),(av,zn 6)] rt (aa (ao i)) (aa z))),λJ=>h.elim (λS=>cH [(zn 13,av),(av,zn 1)] rt (aa (ao J)) (aa S)) (λS=>S.elim (λE=>cH [(zn 13,av),(av,zn 3)] rt (aa (ao J)) (aa E)) (λE=>cH [(zn 13,av),(av,zn 6)] rt (aa (ao J)) (aa E)))⟩⟩⟩)⟩,⟨A,h,sn,r,cj,e1,M.keep (k.sub λn h=>by unfold oG at h;exact⟨λK=>h.elim (λx=>cH [(av,zn 0),(zn 1,av)] rt (aa K) (aa (ao x))) (λx=>x.elim (λD=>cH [(av,zn 0),(zn 3,av)] rt (aa K) (aa (ao D))) (λD=>cH [(av,zn 0),(zn 20,av)] rt (aa K) D.1)),⟨λW=>h.elim (λl=>cH [(zn 11,av),(av,zn 1)] rt (aa (ao W)) (aa l)) (λl=>l.elim (λQ=>cH [(zn 11,av),(av,zn 3)] rt (aa (ao W)) (aa Q)) (λQ=>cH [(av,zn 11),(zn 20,av)] rt (aa W) Q.1)),⟨λO=>h.elim (λN=>cH [(zn 12,av),(av,zn 1)] rt (aa (ao O)) (aa N)) (λN=>N.elim (λV=>cH [(zn 12,av),(av,zn 3)] rt (aa (ao O)) (aa V)) (λV=>cH [(av,zn 12),(zn 20,av)] rt (aa O) V.1)),λs=>h.elim (λF=>cH [(zn 13,av),(av,zn 1)] rt (aa (ao s)) (aa F)) (λF=>F.elim (λj=>cH [(zn 13,av),(av,zn 3)] rt (aa (ao s)) (aa j)) (λj=>cH [(av,zn 13),(zn 20,av)] rt (aa s) j.1))⟩⟩⟩),p⟩,m,⟨B,o,es,e2,w.keep (k.sub λn h=>by unfold sW at h;exact⟨λWT=>h.elim (λKk=>cH [(av,zn 0),(zn 4,av)] rt (aa WT) (aa (ao Kk))) (λKk=>cH [(av,zn 0),(zn 7,av)] rt (aa WT) Kk.1),⟨λQ3=>h.elim (λY=>cH [(zn 11,av),(av,zn 4)] rt (aa (ao Q3)) (aa Y)) (λY=>cH [(zn 11,av),(av,zn 10)] rt (aa (ao Q3)) Y.2),⟨λQ_=>h.elim (λX=>cH [(zn 12,av),(av,zn 4)] rt (aa (ao Q_)) (aa X)) (λX=>cH [(zn 12,av),(av,zn 10)] rt (aa (ao Q_)) X.2),λQ2=>h.elim (λLV=>cH [(zn 13,av),(av,zn 4)] rt (aa (ao Q2)) (aa LV)) (λLV=>cH [(zn 13,av),(av,zn 10)] rt (aa (ao Q2)) LV.2)⟩⟩⟩),q⟩,I.num.keep (k.sub λn h=>by exact⟨λYX=>cH [(zn 14,av),(av,zn 0)] rt (aa (ao h)) (aa YX),⟨λX8=>cH [(zn 14,av),(av,zn 11)] rt (aa (ao h)) (aa X8),⟨λYg=>cH [(zn 14,av),(av,zn 12)] rt (aa (ao h)) (aa Yg),λXI=>cH [(zn 14,av),(av,zn 13)] rt (aa (ao h)) (aa XI)⟩⟩⟩)⟩];rcases hb a with h|h
 ·exact h.symm
 ·exact aS ((cH [(zn 12,av),(av,zn 5)] rt (aa (ao h)) h2).elim) ((cH [(zn 12,av),(av,zn 5)] rt (aa (ao h)) h2).elim)
noncomputable def Cm.d7(c:Cm)(f:Nat)(v:Int):Cm:=match f with
 |0=>⟨v,c.c,c.n,c.key,c.val,c.ex⟩
 |1=>⟨c.k,v,c.n,c.key,c.val,c.ex⟩
 |_=>⟨c.k,c.c,v,c.key,c.val,c.ex⟩
noncomputable def Cm.CG(c:Cm)(f:Nat):Int:=match f with
 |0=>c.k
 |1=>c.c
 |_=>c.n
theorem Cm.HP(c:Cm)(h:f<=2)(v:Int):c.vs.set f (.int v)=(c.d7 f v).vs/\cmz (c.vs.set f (.int v))=(c.d7 f v).o/\c.vs[f]?=some (.int (c.CG f)):=by
 refine UA (gp h) ?_ ?_ ?_
 ·exact⟨rfl,rfl,rfl⟩
 ·exact⟨rfl,rfl,rfl⟩
 ·exact⟨rfl,rfl,rfl⟩
theorem Cm.Ee(c:Cm)(v u:Int):(c.d7 f v).d7 f u=c.d7 f u:=by
 match f with
 |0=>rfl
 |1=>rfl
 |f+2=>rfl
theorem Cm.Good.d7{c:Cm}(g:c.Good)(h:rG v)(h0:f=0->v<=6):(c.d7 f v).Good:=by
 rcases g with⟨⟨b1,b2,b3,b4,b5,b6⟩,⟨i1,i2,i3,i4⟩⟩
 match f with
 |0=>exact⟨⟨lP h,b2,b3,b4,b5,b6⟩,⟨h.1,h0 rfl,i3,i4⟩⟩
 |1=>exact⟨⟨b1,lP h,b3,b4,b5,b6⟩,⟨i1,i2,h,i4⟩⟩
 |f+2=>exact⟨⟨b1,b2,lP h,b4,b5,b6⟩,⟨i1,i2,i3,h⟩⟩
theorem Cm.AN.d7{c:Cm}(g:c.AN)(f:Nat)(h:big v):(c.d7 f v).AN:=by
 rcases g with⟨b1,b2,b3,b4,b5,b6⟩
 match f with
 |0=>exact⟨h,b2,b3,b4,b5,b6⟩
 |1=>exact⟨b1,h,b3,b4,b5,b6⟩
 |f+2=>exact⟨b1,b2,h,b4,b5,b6⟩
theorem Cm.In.of{c:Cm}(a:f<=2)(i:(c.d7 f v).In):rG v/\(f=0->v<=6):=by
 revert i;refine UA (gp a) (λi=>?_) (λi=>?_) λi=>?_
 ·exact⟨⟨i.1,fO i.2 (dc rfl)⟩,λ_=>i.2⟩
 ·exact⟨i.3,λh=>nomatch h⟩
 ·exact⟨i.4,λh=>nomatch h⟩
theorem Cm.Good.get{c:Cm}(g:c.Good)(a:f<=2):rG (c.CG f)/\(f=0->c.CG f<=6):=by
 refine UA (gp a) ?_ ?_ ?_
 ·exact⟨⟨g.i.k0,fO g.i.k6 (dc rfl)⟩,λ_=>g.i.k6⟩
 ·exact⟨g.i.c,λh=>nomatch h⟩
 ·exact⟨g.i.n,λh=>nomatch h⟩
theorem wd(R:Rd af w K)(x:HO H g A c)(h:f<=2)(a:aB 0 n=true)(q:HO (upd (upd H A.kr (.list (c.d7 f v).vs)) A.cm (c.d7 f v).o) g A (c.d7 f v)->Q .none (upd (upd H A.kr (.list (c.d7 f v).vs)) A.cm (c.d7 f v).o)):aZ af w K n 899 [.ref A.kl,.int (f:Int),.int v] H Q X:=by
 erw[wK R x.kb (dM h rfl) a,cA (c.HP h v),(e1 e2 _),aj e1,<-q (x.tell _)]
end
section
variable{G:Hp}
theorem Fq(R:Rd af w K)(I:Inv nz pl ga ka wa t H g)(hy:y<2^39)(j:aB 10 n=true)(q:∀E g',Inv nz pl ga ka wa t E g'->Q (.bool true) E):aZ af w K n 967 [.ref ka,.int (y:Int)] H Q X:=by
 erw[R.lZ.to rfl j,(n j),dg I.cmd,(A c eK M G)];subst eK;have h2:([V.ref A.cm,.ref A.kr]:List V).length<=100000:=dc rfl;have h6:c.vs.length<=100000:=dc rfl;have P:=v9 hy 6;have YG:y%6<6:=kv;have s:∀(p:Cm)(ρ:Loc),p.Good->ρ 0=some (.ref A.kl)->ρ 3=some (.int ((y / 6:Nat):Int))->bN af w K aH n [.dp (.not (bD 913 [aN])) [dj (.cst (.bool false))] [],.dp (.cmp .Eq (.bin .Mod dQ (ek 2)) (ek 0)) [.hX aN (ek 0) (bD 652 [(.bp (bw aN 0) 13 [])])] [],dj (.cst (.bool true))] ρ (upd (upd H A.kr (.list p.vs)) A.cm p.o) (dF Q) (cG X):=λp ρ B L r3=>by
  have l:=M.tell p;have kk:∀{S:Nat->Prop},¬S 12->¬S 13->bJ S H g (upd (upd H A.kr (.list p.vs)) A.cm p.o) g:=λs1 s2=>(bJ.upd (aj M.rr s2)).trans (bJ.upd (aj M.rc s1));have T:=I.Ft (kk (dc rfl) (dc rfl)) rfl (λ_=>.inl rfl) I.claim.upd.upd ⟨A,p,rfl,l,B⟩;generalize upd (upd H A.kr (.list p.vs)) A.cm p.o=H1 at l T;erw[Zh,ZP,<-Zab L ?_,EK R l.kb B (lv j rfl),Zx,Zi,Ze,Zd,Zh,Zy rfl,Zv rfl,<-Zc r3 ?_,dI rfl,<-cq (λe=>?_) (λe=>?_)]
  ·erw[Zp,ZJ,Zq,Za,Zm,Zo rfl,<-Zc L ?_,ax l.kb.k h2 rfl];have hc:=l.kb.c;unfold Cm.o at hc;erw[<-fy hc ⟨rfl,?_⟩,Zb,bt hc rfl,<-kU R l.kb.c B.b (lv j rfl) (λ_=>?_) λi=>absurd B.i i,Zb,oh R B.b B.i (lv j rfl),(d x)];have ek:Ext H1 (upd H1 d p.o):=Ext.fresh Ext.refl x;erw[<-Zc L ?_,ZA,jc (ek _ _ l.kb.k) h2 (dc rfl) (dc rfl),Ze,Zd,ZO rfl];have L:=T.claim.fresh x;have k1:bJ (λn=>n≠0/\n≠11/\n≠12) H1 g (upd (upd H1 d p.o) A.kl (.list [.ref d,.ref A.kr])) (g.set d 12):=((bJ.ext ek).trans (bJ.upd (aj M.rk (dc rfl)))).trans (bJ.set (aj L (dc rfl)));have U:=aJ (ne_sn l.kb.k x);have nr:=aJ (ne_sn l.kb.r x);refine bH Ext.refl (q _ (g.set d 12) (T.Ft (k1.sub λn h=>by exact⟨h.1,⟨h.2.1,h.2.2.1⟩⟩) rfl (λa=>?_) (Claim.set (T.claim.ext ek).upd ?_) ⟨⟨A.kl,d,A.kr⟩,p,rfl,⟨⟨us,ae U us,k1.h _ _ (aj M.rr (dc rfl)) l.kb.r⟩,(fA (aJ U)).trans M.rk,gS,(fA (aJ nr)).trans M.rr⟩,B⟩))
   ·by_cases e:a=d
    ·erw[aj e,<-.inr gS]
    ·exact .inl (fA e)
   ·erw[aj (ae U us),<-λz=>nomatch z]
  ·erw[Zi,Ze,Zd,ZO rfl,<-bH Ext.refl (q _ _ T)]
 erw[Zg,Zs rfl rfl,dI rfl,Zg,Zs rfl rfl,dT rfl (iQ hy).big rfl,Zg,Zo rfl,Zf rfl rfl,ax M.kb.k h2 rfl];have W:y%6<=2->∃v,c.vs[y%6]?=some v/\v=.int (c.CG (y%6)):=λh=>⟨_,(c.HP h 0).2.2,rfl⟩;have all:∃v,c.vs[y%6]?=some v:=⟨c.vs[y%6]'(by assumption),bx _⟩;erw[bf all,(v D),ax M.kb.r h6 (fw D),Zh,Zj rfl rfl,<-fH (λe=>?_) (λe=>?_)]
 ·have C:y%6<=2:=by exact dK [(zs av,zn 3)] (av,zn 2) rt (aU.mp e)
  erw[ay (W C),(v' N e')];rw[D] at N
  obtain rfl:=bV N
  subst e';erw[Zp,Zk,Zq,Zr rfl,Zr rfl,Za,Zz rfl,xk R (iQ P) (lv j rfl),(v hv hb),Zb,wd R M C (lv j rfl),(l),Zg,Zq,Za,Zf rfl rfl,ax l.kb.k h2 rfl,Zb,sE R l.kb.c (Cm.AN.d7 G.b _ hb) (λi=>hv (Cm.In.of C i).1) (lv j rfl)];have go:∀(v u:Int),HO (upd (upd H A.kr (.list (c.d7 (y%6) v).vs)) A.cm (c.d7 (y%6) v).o) g A (c.d7 (y%6) v)->rG u->(y%6=0->u<=6)->∀F:V->Hp->Prop,(∀E,(∀ρ:Loc,ρ 0=some (.ref A.kl)->ρ 3=some (.int ((y / 6:Nat):Int))->bN af w K aH n [.dp (.not (bD 913 [aN])) [dj (.cst (.bool false))] [],.dp (.cmp .Eq (.bin .Mod dQ (ek 2)) (ek 0)) [.hX aN (ek 0) (bD 652 [(.bp (bw aN 0) 13 [])])] [],dj (.cst (.bool true))] ρ E (dF Q) (cG X))->F .none E)->
    aZ af w K n 899 [.ref A.kl,.int ((y%6:Nat):Int),.int u] (upd (upd H A.kr (.list (c.d7 (y%6) v).vs)) A.cm (c.d7 (y%6) v).o) F (cG X):=λv u l Y h0 F hF=>by
   erw[wd R l C (lv j rfl),(J)];rw[Cm.Ee];erw[aj (fB (bX M.rc M.rr (dc rfl)))];rewrite[bR,bR];exact hF _ λρ=>s (c.d7 (y%6) u) ρ (G.d7 Y h0)
  erw[Zh,Zj rfl rfl,<-cq (λe0=>?_) (λe0=>?_)]
  ·have O:y%6=0:=by exact Uv e0
   erw[Zp,Zk,Zq,Zr rfl,Zr rfl,Za,ZI rfl,Zs rfl rfl,dI rfl,Zw,Zb,wd R l C (lv j rfl),(J)];rw[Cm.Ee] at J⊢;rw[fB (bX M.rc M.rr (dc rfl)),bR,bR] at J⊢;erw[Zg,ZY,Zc rfl,Zx,Zp,Zq,Za,Zf rfl rfl,ax J.kb.k h2 rfl,Zb];have ab9:y / 6%300<300:=kv;erw[sE R J.kb.c (Cm.AN.d7 G.b _ (dv (JR (Nat.add_lt_add_left kv 7) rfl))) (λi=>by have:=(Cm.In.of C i).2 O;exact cH [(zp (zn 7) av,zn 6)] rt (aw.mp this)) (lv j rfl),Zk,Zq,Zr rfl,Zr rfl,Za,Zv rfl,ZC,Zs rfl rfl,Zw,Zs rfl rfl,dI rfl,Zw,aD (G.get C),(B g2),ay (eO B),(m em lm)];have gm:=g2 O;erw[aj (show c.CG (y%6)+1+((y / 6%6:Nat):Int)=((m+1+y / 6%6:Nat):Int) by exact Vr em),dI (y:=7) rfl,Zb];have h7:(m+1+y / 6%6)%7<7:=kv;erw[go _ _ J ⟨gV,aw.mpr (dK [(zs av,zn 7)] (av,zn 18446744073709551615) rt kv)⟩ (λ_=>by exact Vo) _,(E h),Ze,Zd,Zh,ZP,<-Zag rfl ?_,Zx,Zi,Ze,Zd,Ze,Zd,<-h _ rfl rfl]
  ·erw[Zi,Zk,Zq,Zr rfl,Zr rfl,Za,ZU rfl rfl,iC R (G.get C).1 P (lv j rfl),(u Y),Zb,go _ _ l ⟨gV,o6 Y⟩ (λz=>absurd (Wg z) e0) _,(E h),Ze,Zd,Zh,ZP,<-Zag rfl ?_,Zx,Zi,Ze,Zd,Ze,Zd,<-h _ rfl rfl]
 ·erw[Zi,Zh,Zj rfl rfl,<-fH (λe5=>?_) (λe5=>?_)]
  ·have:y%6=3\/y%6=4:=(Nat.eq_or_lt_of_le (aw.mp e)).elim (λh=>.inl h.symm) (λh=>.inr (aS (dh (aU.mp e5)) h));rcases this with e3|e4
   ·rw[e3] at D⊢
    obtain rfl:=bV D
    erw[Zp,Zk,Zq,Zr rfl,Zr rfl,Za,ZU rfl rfl,i8 R G.b.key (iQ P) (lv j rfl),(d x),Zb,wK R M.kb (f:=3) (dc rfl) (lv j rfl)]
    repeat (first|with_reducible refine' Ze ?_|with_reducible refine' Zd ?_)
    refine s ⟨c.k,c.c,c.n,d,c.val,c.ex⟩ _ ⟨⟨G.b.k,G.b.c,G.b.n,by exact dM x rfl,G.b.val,G.b.ex⟩,⟨G.i.k0,G.i.k6,G.i.c,G.i.n⟩⟩ rfl rfl
   ·rw[e4] at D⊢
    obtain rfl:=bV D
    erw[Zp,Zk,Zq,Zr rfl,Zr rfl,Za,ZU rfl rfl,i8 R G.b.val (iQ P) (lv j rfl),(d x),Zb,wK R M.kb (f:=4) (dc rfl) (lv j rfl)]
    repeat (first|with_reducible refine' Ze ?_|with_reducible refine' Zd ?_)
    refine s ⟨c.k,c.c,c.n,c.key,d,c.ex⟩ _ ⟨⟨G.b.k,G.b.c,G.b.n,G.b.key,by exact dM x rfl,G.b.ex⟩,⟨G.i.k0,G.i.k6,G.i.c,G.i.n⟩⟩ rfl rfl
  ·have e5:y%6=5:=by exact aS (dK [(zs av,zn 6)] (av,zn 5) rt kv) (dK [(zn 5,av)] (zn 5,av) rt (aw.mp e5))
   rw[e5] at D⊢
   obtain rfl:=bV D
   cases hx:c.ex with
   |none=>
    erw[Zi,Zh,ZS,Zc rfl,lg rfl,Zp,Zk,Zq,Zr rfl,Zr rfl,Za,Zz rfl,mv R (iQ P) (lv j rfl),(d x),Zb,wK R M.kb (f:=5) (dc rfl) (lv j rfl)]
    repeat (first|with_reducible refine' Ze ?_|with_reducible refine' Zd ?_)
    refine s ⟨c.k,c.c,c.n,c.key,c.val,some d⟩ _ ⟨⟨G.b.k,G.b.c,G.b.n,G.b.key,G.b.val,λd' h=>by injection h with h;subst h;exact dM x rfl⟩,⟨G.i.k0,G.i.k6,G.i.c,G.i.n⟩⟩ rfl rfl
   |some d=>
    erw[Zi,Zh,ZS,Zc rfl,lg rfl,Zi,Zk,Zaj rfl rfl rfl,wK R M.kb (f:=5) (dc rfl) (lv j rfl)]
    repeat (first|with_reducible refine' Ze ?_|with_reducible refine' Zd ?_)
    refine s ⟨c.k,c.c,c.n,c.key,c.val,none⟩ _ ⟨⟨G.b.k,G.b.c,G.b.n,G.b.key,G.b.val,λd' h=>nomatch h⟩,⟨G.i.k0,G.i.k6,G.i.c,G.i.n⟩⟩ rfl rfl
end
section
variable{G:Hp}
theorem Jv{xs:List En}(h:∀x,plain 7 (f x)=true):∀v∈xs.map f,plain 7 v=true:=λv a=>by
 erw[ay (cK.mp a),(x _ e)];subst e;exact h x
theorem NP(R:Rd af w K){A:WbA}{a:Nat}(g:H A.wl=some (.list [.ref A.u,.int (a:Int),.ref A.w2]))(E:H A.u=some (BK A.ue a))(j:H A.ue=some (.list (aT es)))(h2:H A.w2=some (.list (aT rs)))(B:dU H es xs)(hr:j_ H rs xs)(r:∀x∈xs,x.Good)(l:xs.length<=50)(P:Y y)(m:aB 4 n=true)(q:Q (.bool true) H):aZ af w K n 972 [.ref A.wl,.int (y:Int)] H Q X:=by
 erw[R.Hw.to rfl m,(n m)];have h3:([V.ref A.u,.int (a:Int),.ref A.w2]).length<=100000:=dc rfl;have G:=B.length;have J:=hr.length;have s:=E;unfold BK at s;erw[Zh,ZH,Zm,Zf rfl rfl,ax g h3 rfl,bC s rfl,Zb,bt s rfl,JH R E j B (dM l rfl) (lv m rfl),i7 rfl,Za,Zf rfl rfl,ax g h3 rfl,Za,ZL,Za,ZK,Zf rfl rfl,ax g h3 rfl,<-tE (λx=>.tup x.vs) h2 (dM l rfl) hr (λe x D j M t=>?_) λc W=>?_]
 ·have h4:x.vs.length<=1000:=dc rfl;erw[ZL,ZF rfl,gj j (by assumption),<-t]
 ·have e1:Ext H (upd H c (.list (xs.map λx=>.tup x.vs))):=Ext.fresh Ext.refl W;erw[Zb,gj us (by rw[aq];exact dM l rfl),ZF rfl];generalize upd H c (.list (xs.map λx=>.tup x.vs))=H1 at e1;erw[Hm (jw (aL rfl (aL (jw (Jv λx=>rfl)) (aL rfl fL)))),Zi,Ze,Zd,Zg,Zm,Zf rfl rfl,ax (e1 _ _ g) h3 rfl,<-fy (e1 _ _ s) ⟨rfl,?_⟩,Za,Zf rfl rfl,ax (e1 _ _ g) h3 rfl,Za,ZC,Zf rfl rfl,ax (e1 _ _ g) h3 rfl,ZN,Za,Zf rfl rfl,ax (e1 _ _ g) h3 rfl,Zb,dW (e1 _ _ h2) (by rw[bG];exact lM J l rfl)];rw[bG];erw[Zw,Zb,bt (e1 _ _ s) rfl,aj (show a+(rs.length:Nat)=((a+rs.length:Nat):Int) by exact OJ),vC R (e1 _ _ E) (e1 _ _ j) (lM G l rfl) qQ uX (yj [(av,aX),(aX,bT)] (zp gi av,zp gi bT) rt (aa J) (aa (ao G))) (lv m rfl),(d U)];rewrite[j6,oC];erw[aj fS,aj (d6 (Vz G J))];have e2:Ext H (upd H1 d (.list (aT es))):=Ext.fresh e1 (aI e1 U);have k:(upd H1 d (.list (aT es))) d=some (.list (aT es)):=us;generalize upd H1 d (.list (aT es))=H2 at e2 k;erw[Zh,ZH,ZK,Zc rfl,<-Au (λx=>.int (x.oct.length:Nat)) k (dM l rfl) (B.ext e2) (λe x D j M t=>?_) λf L=>?_]
  ·have C:=j;unfold En.o at C;erw[Zm,Zc rfl,bC C rfl,Zb,bt C rfl,<-kT R j (r x D).b (lv m rfl) (λ_=>t) λz=>absurd (r x D).i z]
  ·have e3:Ext H (upd H2 f (.list (xs.map λx=>.int ((x.oct.length:Nat):Int)))):=Ext.fresh e2 (aI e2 L);have I:(upd H2 f (.list (xs.map λx=>.int ((x.oct.length:Nat):Int)))) f=some (.list (xs.map λx=>.int ((x.oct.length:Nat):Int))):=us;have p:(upd H2 f (.list (xs.map λx=>.int ((x.oct.length:Nat):Int)))) d=some (.list (aT es)):=ae (ne_sn k L) k;generalize upd H2 f (.list (xs.map λx=>.int (x.oct.length:Nat)))=H3 at e3 I p;erw[ZK,Zf rfl rfl,ax (e3 _ _ g) h3 rfl,<-tE (λx=>.int (x.oct.length:Nat)) (e3 _ _ h2) (dM l rfl) (hr.ext e3) (λe x D j M t=>?_) λh F=>?_]
   ·have T:=En.gI (r x D).b.d (r x D).i;erw[ZN,Za,Zz rfl,mH R j (r x D).i (r x D).b.d (lv m rfl),Zb,fe (dM T rfl),<-t]
   ·have e4:Ext H (upd H3 h (.list (xs.map λx=>.int ((x.oct.length:Nat):Int)))):=Ext.fresh e3 (aI e3 F);erw[Ux (ae (ne_sn I F) I) us (cJ.mpr λv S=>?_)]
    ·erw[ay (cK.mp S),(x _ N)];subst N;rfl
    ·have O:=ae (mo:=.list (xs.map λx=>.int ((x.oct.length:Nat):Int))) (ne_sn p F) p;generalize upd H3 h (.list (xs.map λx=>.int (x.oct.length:Nat)))=H4 at e4 O;erw[Zi,Ze,Zd,Zt,Zq,Zr rfl,Za,Zf rfl rfl,ax (e4 _ _ g) h3 rfl,ZF rfl,Em R O (e4 _ _ h2) (B.ext e4) (hr.ext e4) r l P (lv m rfl),<-bH e4 q]
theorem Lj(C:Cells H g):∀{es:List Addr},(∀e∈es,g.R e=4)->dU H es (es.map g.en)/\j_ H (es.map g.mt) (es.map g.en)/\∀x∈es.map g.en,x.Good
 |[],_=>⟨trivial,trivial,λ_ h=>nomatch h⟩
 |e::es,h=>by
  erw[cA (Lj C λd f=>h d (fV f)),(a b c),iE (C.ent e (.inr (h e kf))),(k j _ _ i),<-⟨⟨k,a⟩,⟨j,b⟩,aL i c⟩]
theorem xJ(R:Rd af w K)(C:Cells H g)(W:I0 H g A off es)(h:es.length<=50)(d:Y y)(e:aB 4 n=true)(q:Q (.bool true) H):aZ af w K n 972 [.ref A.wl,.int (y:Int)] H Q X:=by
 erw[cA (Lj C W.DY),(a b c),<-NP R W.hw W.hu W.RU W.UQ a b c (by rw[aq];exact h) d e q]
end
theorem Pr.put{p e r:Addr}(h:Pr H p e r x):Pr (upd (upd H r (.list x'.vs)) e x'.o) p e r x':=by
 erw[cA h.ne,(b a n),<-⟨ae b (ae a h.p),us,ae (aJ n) us⟩]
noncomputable def Gh.wait(g:Gh)(e r:Addr)(x:En):Gh:=
 ⟨λa=>if a=e then 4 else if a=r then 5 else g.R a,λa=>if a=e then r else if a=r then e else g.mt a,λa=>if a=e then x else g.en a⟩
noncomputable def Gh.drop(g:Gh)(e:Addr):Gh:={g with R:=λa=>if a=e then 0 else if a=g.mt e then 0 else g.R a}
def s0(n:Nat):Prop:=n=1\/n=3\/n=6\/11<=n
structure WS(H:Hp)(g:Gh)(H':Hp)(g':Gh):Prop where
 c:Cells H' g'
 k:Claim H' g'
 h:bJ s0 H g H' g'
section
variable{H' cI:Hp}{g':Gh}
theorem WS.ext(S:WS H g H' g')(e:Ext H' cI):WS H g cI g':=⟨S.c.ext e,S.k.ext e,S.h.trans (.ext e)⟩
theorem WS.upd{a:Addr}{y:MO}(S:WS H g H' g')(z:g'.R a=0\/(7<=g'.R a/\g'.R a<=10)):WS H g (upd H' a y) g':=
 ⟨S.c.keep (.upd (λQ=>z.elim (λK=>cH [(zn 1,av),(av,zn 0)] rt Q.1 (aa K)) (λK=>cH [(av,zn 5),(zn 7,av)] rt Q.2 K.1))) (λ_ _ _=>rfl) λ_ _ _=>rfl,S.k.upd,S.h.trans (.upd (by unfold s0;exact λf=>z.elim (λw=>f.elim (λd=>cH [(av,zn 0),(zn 1,av)] rt (aa w) (aa (ao d))) (λd=>d.elim (λb=>cH [(av,zn 0),(zn 3,av)] rt (aa w) (aa (ao b))) (λb=>b.elim (λM=>cH [(av,zn 0),(zn 6,av)] rt (aa w) (aa (ao M))) (λM=>cH [(av,zn 0),(zn 11,av)] rt (aa w) M)))) (λw=>f.elim (λe=>cH [(zn 7,av),(av,zn 1)] rt w.1 (aa e)) (λe=>e.elim (λN=>cH [(zn 7,av),(av,zn 3)] rt w.1 (aa N)) (λN=>N.elim (λL=>cH [(zn 7,av),(av,zn 6)] rt w.1 (aa L)) (λL=>cH [(av,zn 10),(zn 11,av)] rt w.2 L))))))⟩
theorem WS.set{n:Nat}(S:WS H g H' g')(z:g'.R a=0)(d:7<=n/\n<=10)(f:H' a≠none):WS H g H' (g'.set a n):=by
 refine⟨S.c.keep (.set (λi=>cH [(av,zn 0),(zn 1,av)] rt (aa z) i.1)) (λ_ _ _=>rfl) λb h1 h2=>?_,S.k.set f,S.h.trans (.set (by unfold s0;exact λY=>Y.elim (λK=>cH [(av,zn 0),(zn 1,av)] rt (aa z) (aa (ao K))) (λK=>K.elim (λM=>cH [(av,zn 0),(zn 3,av)] rt (aa z) (aa (ao M))) (λM=>M.elim (λL=>cH [(av,zn 0),(zn 6,av)] rt (aa z) (aa (ao L))) (λL=>cH [(av,zn 0),(zn 11,av)] rt (aa z) L)))))⟩
 by_cases e:b=a
 ·rw[e,gS] at h2;exact aS ((cH [(zn 7,av),(av,zn 5)] rt d.1 h2).elim) ((cH [(zn 7,av),(av,zn 5)] rt d.1 h2).elim)
 ·exact(fA e).symm
theorem J_(n:e≠r):(g.wait e r x).R e=4/\(g.wait e r x).R r=5/\(g.wait e r x).mt e=r/\(g.wait e r x).mt r=e/\(g.wait e r x).en e=x:=by
 refine⟨if_pos rfl,?_,if_pos rfl,?_,if_pos rfl⟩
 ·show(if r=e then 4 else if r=r then 5 else _)=5;erw[aj (if_neg (aJ n)),aj (if_pos rfl)];rfl
 ·show(if r=e then r else if r=r then e else _)=e;erw[aj (if_neg (aJ n)),aj (if_pos rfl)];rfl
theorem bJ.wait{e r:Addr}(C:Claim H g)(d:H e=none)(hr:H r=none)(k:Ext H H')(z:¬s 0):bJ s H g H' (g.wait e r x):=by
 have q:∀a,s (g.R a)->a≠e/\a≠r:=λa h=>⟨λq=>z (c_ (C.fresh d) (c_ q h)),λq=>z (c_ (C.fresh hr) (c_ q h))⟩;refine⟨λa h=>?_,λa h=>?_,λa m _ h=>k a m h⟩
 ·erw[aD (q a h),(c b)];show(if a=e then 4 else if a=r then 5 else g.R a)=g.R a;erw[aj (if_neg c),aj (if_neg b)];rfl
 ·erw[aD (q a h),(c b)];show(if a=e then r else if a=r then e else g.mt a)=g.mt a;erw[aj (if_neg c),aj (if_neg b)];rfl
theorem WS.wait(S:WS H g H' g')(C:H' e=none)(hr:H' r=none)(k:Ext H' cI)(h1:cI e=some x.o)(h2:cI r=some (.list x.vs))(K:x.Good):WS H g cI (g'.wait e r x):=by
 have w:=fU h1 h2 (λz=>by injection z);erw[iE (J_ (g:=g') (x:=x) w),(A u I G F)];have i:bJ (λn=>n≠0) H' g' cI (g'.wait e r x):=.wait S.k C hr k (λh=>h rfl);have b:∀a,a≠e->a≠r->(g'.wait e r x).R a=g'.R a:=λa t s=>by
  show(if a=e then 4 else if a=r then 5 else g'.R a)=g'.R a;erw[aj (if_neg t),aj (if_neg s)];rfl
 refine⟨⟨λd f=>?_,λp j=>?_⟩,⟨λa D q=>?_⟩,S.h.trans (.wait S.k C hr k (by unfold s0;decide))⟩
 ·by_cases q:d=e
  ·replace q:=q.symm;subst q;erw[aj F,aj I,aj A,aj u,aj G,<-⟨h1,h2,rfl,rfl,K⟩]
  ·have v:d≠r:=λz=>by rw[z,u] at f;exact f.elim (λN=>DE [(zn 5,zn 1)] rt (aa N)) (λN=>DE [(zn 5,zn 4)] rt (aa N))
   rw[b d q v] at f;erw[iE (S.c.ent d f),(Q P E O M)];have l:g'.R d≠0:=by exact WV f
   have B:g'.R (g'.mt d)≠0:=by exact WM E
   have L:(g'.wait e r x).en d=g'.en d:=if_neg q;erw[aj (i.m d l),aj (i.r d l),aj (i.r _ B),aj (i.m _ B),aj L,<-⟨k _ _ Q,k _ _ P,E,O,M⟩]
 ·have J:p≠e:=λz=>by rw[z,A] at j;exact DE [(zn 4,zn 3)] rt (aa j)
  have v:p≠r:=λz=>by rw[z,u] at j;exact DE [(zn 5,zn 3)] rt (aa j)
  rw[b p J v] at j;erw[ay (S.c.pr p j),(d f y)];have l:g'.R d≠0:=by exact TF f rfl
  exact⟨d,(i.r d l).trans f,by erw[aj (i.m d l),<-k _ _ y]⟩
 ·by_cases t:a=e
  ·rw[t,h1] at q;injection q
  ·by_cases s:a=r
   ·rw[s,h2] at q;injection q
   ·rw[b a t s] at D;exact S.k.c a D (aI k q)
theorem p_(h1:a≠e)(h2:a≠g.mt e):(g.drop e).R a=g.R a:=by
 show(if a=e then 0 else if a=g.mt e then 0 else g.R a)=g.R a;erw[aj (if_neg h1),aj (if_neg h2)];rfl
theorem Mf:(g.drop e).R e=0:=if_pos rfl
theorem CI:(g.drop e).R a=0\/(a≠e/\a≠g.mt e):=by
 by_cases h1:a=e
 ·exact .inl (aj h1 Mf)
 ·by_cases h2:a=g.mt e
  ·erw[.inl];show(if a=e then 0 else if a=g.mt e then 0 else g.R a)=0;erw[aj (if_neg h1),aj (if_pos h2)];rfl
  ·exact .inr ⟨h1,h2⟩
theorem bJ.drop(C:Cells H g)(b:g.R e=4)(c:¬s 4)(z:¬s 5):bJ s H g H (g.drop e):=by
 have r:g.R (g.mt e)=5:=by refine' aj ((C.ent e (.inr b)).2.2.1) ?_;refine' aj b ?_;rfl
 exact⟨λa h=>p_ (λq=>c (c_ b (c_ q h))) (λq=>z (c_ r (c_ q h))),λ_ _=>rfl,λ_ _ _ h=>h⟩
theorem WS.drop(S:WS H g H' g')(j:g'.R e=4):WS H g H' (g'.drop e):=by
 have r:=(S.c.ent e (.inr j)).2.2.1;have m4:=(S.c.ent e (.inr j)).2.2.2.1;rw[j] at r;refine⟨⟨λd b=>?_,λp m=>?_⟩,⟨λa n=>?_⟩,S.h.trans (.drop S.c j (by unfold s0;decide) (by unfold s0;decide))⟩
 ·rcases CI with q|⟨f,i⟩
  ·exact⟨b.elim (λM=>(cH [(av,zn 0),(zn 1,av)] rt (aa q) (aa (ao M))).elim) (λM=>(cH [(av,zn 0),(zn 4,av)] rt (aa q) (aa (ao M))).elim),⟨b.elim (λo=>(cH [(av,zn 0),(zn 1,av)] rt (aa q) (aa (ao o))).elim) (λo=>(cH [(av,zn 0),(zn 4,av)] rt (aa q) (aa (ao o))).elim),⟨b.elim (λE=>aS ((cH [(av,zn 0),(zn 1,av)] rt (aa q) (aa (ao E))).elim) ((cH [(av,zn 0),(zn 1,av)] rt (aa q) (aa (ao E))).elim)) (λE=>aS ((cH [(av,zn 0),(zn 4,av)] rt (aa q) (aa (ao E))).elim) ((cH [(av,zn 0),(zn 4,av)] rt (aa q) (aa (ao E))).elim)),⟨b.elim (λK=>(cH [(av,zn 0),(zn 1,av)] rt (aa q) (aa (ao K))).elim) (λK=>(cH [(av,zn 0),(zn 4,av)] rt (aa q) (aa (ao K))).elim),b.elim (λL=>(cH [(av,zn 0),(zn 1,av)] rt (aa q) (aa (ao L))).elim) (λL=>(cH [(av,zn 0),(zn 4,av)] rt (aa q) (aa (ao L))).elim)⟩⟩⟩⟩
  ·rw[p_ f i] at b⊢;erw[iE (S.c.ent d b),(y x t s w)];have v:g'.mt d≠e:=λz=>by rw[z] at t;lia
   have u:g'.mt d≠g'.mt e:=λz=>f (c_ s (aj z (aj m4 rfl)));exact⟨y,x,(p_ v u).trans t,s,w⟩
 ·rcases CI with q|⟨f,i⟩
  ·exact(cH [(av,zn 0),(zn 3,av)] rt (aa q) (aa (ao m))).elim
  ·rw[p_ f i] at m;erw[ay (S.c.pr p m),(d b l),<-⟨d,(p_ (λz=>by rw[z] at b;exact cH [(av,zn 1),(zn 4,av)] rt (aa b) (aa (ao j))) (λz=>by rw[z] at b;exact cH [(av,zn 1),(zs (zn 4),av)] rt (aa b) (aa (ao r)))).trans b,l⟩]
 ·rcases CI with q|⟨f,i⟩
  ·exact absurd q n
  ·rw[p_ f i] at n;exact S.k.c a n
theorem Inv.ws(I:Inv nz pl ga ka wa t H g)(S:WS H g H' g')(l:t<=t')(m:∃A o es,A.wl=wa/\I0 H' g' A o es/\WP o es t'):Inv nz pl ga ka wa t' H' g':=by
 erw[iS I.msg,(A h u r y e1 M p),dg I.cmd,(D c e3 v z),bf I.y6,(ts P),<-⟨S.c,S.k,⟨ts,P.keep (S.h.sub λn h=>by unfold s0;exact h.elim (λj=>.inl (j)) (λj=>.inr (j.elim (λf=>.inl (f)) (λf=>.inr (.inl (f))))))⟩,⟨A,h,u,r,y,e1,M.keep (S.h.sub λn h=>by unfold oG at h;unfold s0;exact h.elim (λe=>.inl (e)) (λe=>.inr (e.elim (λq=>.inl (q)) (λq=>.inr (.inr (dK [(zn 20,av)] (zn 11,av) rt q.1)))))),⟨p.hi,p.zx,p.len,λs w=>?_,p.c⟩⟩,⟨D,c,e3,v.keep (S.h.sub λn h=>by unfold s0;exact .inr (.inr (.inr (h.elim (λK=>dK [(zn 11,av)] (zn 11,av) rt (aa (ao K))) (λK=>K.elim (λL=>dK [(zn 12,av)] (zn 11,av) rt (aa (ao L))) (λL=>dK [(zn 13,av)] (zn 11,av) rt (aa (ao L)))))))),z⟩,m,I.num.keep (S.h.sub λn h=>by unfold s0;exact .inr (.inr (.inr (dK [(zn 14,av)] (zn 11,av) rt (aa (ao h))))))⟩,dY (p.so s w),(a b c d),<-⟨a,b,gP [(av,zs aX),(aX,bT)] (av,zs bT) rt c l,λi x=>by have:=d i x;exact jY [(cN,ym 200 (ys dX)),(ym 200 dX,ym 200 fY)] (cN,ym 200 (ys fY)) rt this (d9 (aw.mpr l) (d0 200))⟩]
theorem WS.refl{nz:Nz}{pl:Addr}{ga:Addr}{ka:Addr}{wa:Addr}{t:Nat}(I:Inv nz pl ga ka wa t H g):WS H g H g:=⟨I.cells,I.claim,.ext .refl⟩
end
section
variable{G:Hp}
theorem J8(R:Rd af w K)(h:Pr H p e r x)(g:x.Good)(b:y<2^39)(a:aB 2 n=true)(q:∀v:Int,rG v->Q .none (upd (upd H r (.list (x.d7 0 v).vs)) e (x.d7 0 v).o)):aZ af w K n 811 [.ref p,.int 0,.int (y:Int)] H Q X:=by
 erw[R.Fy.to rfl a,(n a)];have h2:([V.ref e,.ref r]).length<=100000:=dc rfl;have h4:x.vs.length<=100000:=dc rfl;erw[ax h.p h2 rfl,ax h.r h4 rfl,Zh,ZT,Zn,Zj rfl rfl,<-fH (λ_=>?_) (λz=>absurd z (dc rfl)),Z0,Zp,Zk,Zq,Zr rfl,Zr rfl,Za,Zq,Zr rfl,Za,Zs rfl rfl,dT rfl (iQ b).big rfl,iC R g.i.t (v9 b 3) (lv a rfl),(v c),mX R h (dc rfl) (lv a rfl),<-cR Ext.refl (q v ⟨gV,o6 c⟩)]
end
structure PW(H:Hp)(g:Gh)(pl:Addr)(ts:List Tr)(B:WbA)(off:Nat)(es:List Addr)(F:Addr)(at_:Nat)(H':Hp)(g':Gh)(ps:List Tr):Prop where
 ws:WS H g H' g'
 p:gF H' g' pl ts
 w:I0 H' g' B off es
 f:H' F=some (.list (aT (ps.map (·.p))))
 rf:g'.R F=0
 tr:∀z∈ps,H' z.p=some (.list [.ref z.e,.ref z.r])/\g'.R z.p=0/\g'.R z.e=4/\g'.mt z.e=z.r/\z.p≠F
 nd:(es++ps.map (·.e)).Nodup
 ix:∀z,ps.head?=some z->(g'.en z.e).i=(at_:Int)
theorem C9(h1:a≠e)(h2:a≠r):(g.wait e r x).R a=g.R a:=by
 show(if a=e then 4 else if a=r then 5 else g.R a)=g.R a;erw[aj (if_neg h1),aj (if_neg h2)];rfl
theorem PW.add{t:Tr}(P:PW H g pl ts B off es F at_ H' g' d)(c:Fr H' t)(e1:Ext H' H1)(j:Pr H1 t.p t.e t.r x)(Q:x.Good)(N:d=[]->x.i=(at_:Int)):
  PW H g pl ts B off es F at_ (upd H1 F (.list (aT ((d++[t]).map (·.p))))) (g'.wait t.e t.r x) (d++[t]):=by
 rcases P with⟨ws,p,w,f,rf,tr,nd,ix⟩
 erw[cA j.ne,(M L K),iE (J_ (g:=g') (x:=x) K),(I X G W E)];have o:bJ (λn=>n≠0) H' g' H1 (g'.wait t.e t.r x):=.wait ws.k c.e c.r e1 (λh=>h rfl);have l:(g'.wait t.e t.r x).R F=0:=(C9 (ne_sn f c.e) (ne_sn f c.r)).trans rf;have C:∀{s:Nat->Prop},¬s 0->bJ s H' g' (upd H1 F (.list (aT ((d++[t]).map (·.p))))) (g'.wait t.e t.r x):=λz=>(o.sub λn h=>λq=>z (q▸h)).trans (.upd (aj l z));have e4:=ws.k.fresh c.e;refine⟨(ws.wait c.e c.r e1 j.e j.r Q).upd (.inl l),p.keep (C (dc rfl)),w.keep (C (by unfold sW;decide)),us,l,λz hz=>?_,?_,λz hz=>?_⟩
 ·rcases cC.mp hz with hz|hz
  ·erw[iE (tr z hz),(v V u U D),<-⟨ae D (e1 _ _ v),(C9 (ne_sn v c.e) (ne_sn v c.r)).trans V,(o.r _ (TF u rfl)).trans u,(o.m _ (TF u rfl)).trans U,D⟩]
  ·erw[aj (aR.mp hz)];have A:=aJ (ne_sn f c.p);exact⟨ae A j.p,(C9 M L).trans (ws.k.fresh c.p),I,G,A⟩
 ·erw[aj aY];rewrite[<-aC];refine iL.mpr ⟨nd,fE _ _,λa ha b O q=>?_⟩;rw[aR.mp O] at q;rcases cC.mp ha with ha|ha
  ·have:=w.DY a ha;rw[q,e4] at this;injection this
  ·erw[ay (cK.mp ha),(z hz T)];subst T;have:=(tr z hz).2.2.1;rw[q,e4] at this;injection this
 ·induction d using lcs with
  |nil=>
   obtain rfl:=bV hz
   erw[aj E,<-N rfl]
  |cons y d=>
   obtain rfl:=bV hz
   have J:y.e≠t.e:=λq=>by
    have:=(tr y kf).2.2.1;rw[q,e4] at this;injection this
   have S:(g'.wait t.e t.r x).en y.e=g'.en y.e:=if_neg J;erw[aj S,<-ix y rfl]
section
variable{G:Hp}
def Qp:List S:=[.bq 7 (.sub bA (.bin .Mod (.bin .Add dC jW) (.call .len [bA]))),.bq 8 (.lst [(.bp (bw A0 0) 10 []),(.call .list [(bw A0 1)])]),.dp (.not (bD 818 [Dt])) [dj (.cst (.bool false))] [],.expr (bD 804 [Dt,(ek 1),(.bin .Add fG jW)]),.expr (bD 811 [Dt,(ek 0),(.bin .Add dQ (.bin .Mult (ek 5) jW))]),.expr (.bp fJ 0 [Dt])]
theorem Jq(R:Rd af w K)(P:PW H g pl ts B off es F at_ H' g' ps)(hy:y<2^38)(ha:at_<2^60)(l:ps.length<=1)(J:ρ 1=some (.ref pl))(r2:ρ 2=some (.int (j:Int)))(r3:ρ 3=some (.int (y:Int)))(r4:ρ 4=some (.int (at_:Int)))(Y:ρ 5=some (.ref F))(u:ρ 6=some (.int (ps.length:Int)))(m:aB 6 n=true)(q:∀k g2 z W U,PW H g pl ts B off es F at_ k g2 (ps++[z])->M .next (upd (upd ρ 7 W) 8 U) k):bN af w K aH n Qp ρ H' M X:=by
 have jl:=P.p.len;have I:=nR.mpr P.p.ne;have L:(aT (ts.map (·.p))).length<=100000:=by rw[bG,aq];exact dM jl rfl
 have OO:(j+ps.length)%ts.length<ts.length:=fT _ I;erw[fh (og P.p OO),(z Qn _ hz T),aD (T.pr P.ws.c),(b E)];have h2:([V.ref z.e,.ref z.r]).length<=100000:=dc rfl;generalize hx:g'.en z.e=x at b E;have h4:x.vs.length<=1000:=dc rfl;have D:=b.e;unfold En.o at D;unfold Qp;erw[Zg,Z5,<-Zc J ?_,ZC,<-Zs r2 u ?_,Zw,<-ZG J ?_,dW P.p.h L];rewrite[bG,aq];erw[aj (show j+ps.length=((j+ps.length:Nat):Int) by exact OJ),dI (d4.mpr I),ax P.p.h L (fw hz),Zg,eR rfl,Za,Zm,Zf rfl rfl,ax b.p h2 rfl,bC D rfl,Zb,bt D rfl,oJ R b.e (lv m rfl),(e N)];have G:Ext H' (upd H' e x.o):=Ext.fresh Ext.refl N;erw[Za,Z4,Za,Zf rfl rfl,ax (G _ _ b.p) h2 rfl,Zb,qc (G _ _ b.r) h4,(r hr),Zb,(p A),cA (CJ (c:=λ_=>x.o) N hr A),(i Q t)];generalize (upd (upd (upd H' e x.o) r (.list x.vs)) p (.list [.ref e,.ref r]))=H1 at Q t;erw[Zh,ZP,Zab rfl,mM R t E (lv m rfl),Zx,Zi,Ze,Zd,Zk,Zq,Zr rfl,Zr rfl,Za,<-Zs r4 u ?_,Zw,Zb,aj (show at_+ps.length=((at_+ps.length:Nat):Int) by exact OJ),mX R t (dc rfl) (lv m rfl)];have C:rG ((at_+ps.length:Nat):Int):=⟨gV,aw.mpr (fp [(zs av,zn 1152921504606846976),(aX,zn 1)] (zp av aX,zn 18446744073709551615) rt ha l)⟩;have a:=t.put (x':=x.d7 1 ((at_+ps.length:Nat):Int));have O:=E.d7 1 C;have S:Ext H' (upd (upd H1 r (.list (x.d7 1 ((at_+ps.length:Nat):Int)).vs)) e (x.d7 1 ((at_+ps.length:Nat):Int)).o):=Ext.fresh (Ext.fresh Q i.r) i.e;generalize (upd (upd H1 r (.list (x.d7 1 ((at_+ps.length:Nat):Int)).vs)) e (x.d7 1 ((at_+ps.length:Nat):Int)).o)=k at a S;erw[Zk,Zq,Zr rfl,Zr rfl,Za,<-ZI r3 ?_,ZI rfl,<-Zc u ?_,<-⟨dv (dc rfl),dv (by rw[cT];exact aK l (dc rfl)),?_⟩,Zw,Zb,aj (show(y:Int)+(5:Int)*(ps.length:Int)=((y+5*ps.length:Nat):Int) by exact rfl),J8 R a O (fp [(zs av,zn 274877906944),(zm 5 aX,zm 5 (zn 1))] (zs (zp av (zm 5 aX)),zn 549755813888) rt hy (aP 5 l)) (lv m rfl),(v hv)];have d:=a.put (x':=(x.d7 1 ((at_+ps.length:Nat):Int)).d7 0 v);have gW:=O.d7 0 hv;have s:Ext H' (upd (upd k r (.list ((x.d7 1 ((at_+ps.length:Nat):Int)).d7 0 v).vs)) e ((x.d7 1 ((at_+ps.length:Nat):Int)).d7 0 v).o):=Ext.fresh (Ext.fresh S i.r) i.e;generalize (upd (upd k r (.list ((x.d7 1 ((at_+ps.length:Nat):Int)).d7 0 v).vs)) e ((x.d7 1 ((at_+ps.length:Nat):Int)).d7 0 v).o)=H3 at d s;erw[Zk,Zm,<-Zc Y ?_,<-o7 (s _ _ P.f) ⟨rfl,?_⟩,ZF rfl,qV (s _ _ P.f) (by rw[bG,aq];exact dM l rfl)];have e2:aT (ps.map (·.p))++[V.ref p]=aT ((ps++[(⟨p,e,r⟩:Tr)]).map (·.p)):=by unfold aT;refine' aj aY ?_;refine' aj aY ?_;rfl
 erw[aj e2,Ze];exact q _ _ ⟨p,e,r⟩ _ _ (P.add i s d gW λh=>by
  erw[aj h];show((at_+0:Nat):Int)=_;rw[Nat.add_zero])
end
theorem WS.off(S:WS H g H' g')(z:7<=g'.R a/\g'.R a<=10)(k:∀b mo,b≠a->H' b=some mo->cI b=some mo)(i:cI a≠none):WS H g cI g':=by
 have d:∀{s:Nat->Prop},¬s (g'.R a)->bJ s H' g' cI g':=λn=>⟨λ_ _=>rfl,λ_ _=>rfl,λb mo h q=>k b mo (λe=>n (e▸h)) q⟩;refine⟨S.c.keep (d (λY=>cH [(zn 7,av),(av,zn 5)] rt z.1 Y.2)) (λ_ _ _=>rfl) λ_ _ _=>rfl,⟨λb f q=>?_⟩,S.h.trans (d (by unfold s0;exact λV=>V.elim (λK=>cH [(zn 7,av),(av,zn 1)] rt z.1 (aa K)) (λK=>K.elim (λN=>cH [(zn 7,av),(av,zn 3)] rt z.1 (aa N)) (λN=>N.elim (λM=>cH [(zn 7,av),(av,zn 6)] rt z.1 (aa M)) (λM=>cH [(av,zn 10),(zn 11,av)] rt z.2 M)))))⟩
 by_cases e:b=a
 ·exact i (e▸q)
 ·cases h:H' b with
  |none=>exact S.k.c b f h
  |some mo=>rw[k b mo e h] at q;injection q
theorem NL(l:List Addr)(k:Nat):cut (aT l) (some (k:Int)) none=aT (l.drop k):=by
 unfold cut aT;dsimp only;rewrite[aM];erw[aj xj];rfl
section
variable{G:Hp}
def Qs:List S:=[.dp (.not (bD 972 [aN,(.bin .FloorDiv dQ (ek 14))])) [dj (.cst (.bool false))] [],.dp (.cmp .Gt (.bin .Mod (.bin .FloorDiv dQ (ek 14)) (ek 3)) (ek 0)) [dj (.cst (.bool true))] [],.bq 10 (.lst [(bw (.bp (bw aN 0) 17 [fG,(.bin .Add fG (ek 1))]) 0),(.call .list [(bw xe 0)])]),.expr (.bp (bw aN 0) 15 [fG,(bw (bw xe 0) 0)]),.hX aN (ek 2) (.A4 (bw aN 2) (some (.bin .Sub (.bin .Add fG (ek 1)) (bw aN 1))) none),.hX aN (ek 1) (.bin .Add fG (ek 1)),.expr (bD 811 [Ez,(.bin .Mod (.bin .FloorDiv dQ (ek 42)) (ek 4)),(.bin .FloorDiv dQ (ek 168))]),dj (.and [(bD 832 [Ez]),(bD 972 [aN,(.bin .FloorDiv dQ (ek 42))])])]
theorem BC(R:Rd af w K)(I:Inv nz pl ga ka A.wl t H g)(S:WS H g H3 g3)(W:I0 H3 g3 A off es)(N:t<=20)(p1:WP off es (t+1))(ho:off<=2^57+100*t)(hk:es[k]?=some f0)(hr:H3 rw_=some (.list (aT (r0::rs))))(e0:r0=g3.mt f0)(l0:ρ 0=some (.ref A.wl))(l3:ρ 3=some (.int (y:Int)))(l4:ρ 4=some (.int ((off+k:Nat):Int)))(l9:ρ 9=some (.ref rw_))(B:y<2^39)(DO:rs.length<=100)(hn:aB 7 n=true)(q:∀H' g',Inv nz pl ga ka A.wl (t+1) H' g'->Q (.bool true) H'):bN af w K aH n Qs ρ H3 (dF Q) (cG X):=by
 have C:=p1.len;have Wv:es.length<=50:=by exact fp [(av,zm 2 (zs aX)),(zm 2 aX,zm 2 (zn 20))] (av,zn 50) rt C (aP 2 N)
 have OD:k<es.length:=by
  by_cases h:k<es.length
  ·exact h
  ·rw[uf (aw.mp (oE [(cN,dX)] (cN,dX) rt (aw.mpr (bW h))))] at hk;injection hk
 have hf0:f0∈es:=JP hk;have P:=W.DY f0 hf0;erw[iE (S.c.ent f0 (.inr P)),(c1 c2 c3 c4 c5)];rw[P] at c3;generalize hx:g3.en f0=x at c1 c2 c5;have h3:∀(u:Addr)(o:Int)(v:Addr),([V.ref u,.int o,.ref v]:List V).length<=100000:=λ_ _ _=>by show 3<=100000;decide
 have pq:=W.hu;unfold BK at pq;have hmr:∀l:List Addr,(aT (l.map g3.mt)).length=l.length:=λl=>by rw[bG,aq]
 unfold Qs;erw[Zh,ZP,Zaa,<-Zr l0 ?_,Za,Zv rfl,<-Zc l3 ?_,dT (y:=14) rfl (iQ B).big rfl,Zb,xJ R S.c W Wv (iQ (v9 B 14)) (lv hn rfl),Zx,Zi,Ze,Zd,Zh,Zy rfl,Zv rfl,Zv rfl,<-Zc l3 ?_,dT (y:=14) rfl (iQ B).big rfl,dI (y:=3) rfl,<-j7 (λe=>?_) (λe=>?_)]
 ·erw[Zp,ZO rfl,Z8,<-bH Ext.refl (q _ _ (I.ws S (mJ _) ⟨A,off,es,rfl,W,p1⟩))]
 ·erw[Zi,Ze,Zd,Zg,eR rfl,Za,Zo rfl,Zm,Zo rfl,<-Zc l0 ?_,ax (v:=.ref A.u) W.hw (h3 _ _ _) rfl,<-fy pq ⟨rfl,?_⟩,<-Zr l4 ?_,Za,Zv rfl,<-Zc l4 ?_,Zw,Zb,bt pq rfl,aj (show((off+k:Nat):Int)+1=((off+k+1:Nat):Int) by exact PC),vC R W.hu W.RU (by exact Yz C N) (by exact uX) (by exact uX) (gP [(zs av,aX)] (zs (zp bT av),zp bT aX) rt OD) (lv hn rfl),(c hc)];have ec:(es.take (off+k+1-off)).drop (off+k-off)=[f0]:=by
   erw[aj (show off+k+1-off=k+1 by exact aS (gP [(zp av aX,zs (zp aX bT))] (av,zs bT) rt (aa (bM (fp [] (av,zs (zp av aX)) rt)))) (gP [(zs (zp av aX),zp bT av)] (zs aX,bT) rt (aa (ao (bM (fp [] (av,zs (zp av aX)) rt))))))];rewrite[j6];erw[aj iK,aj hk,aj (List.drop_append_of_le_length (by erw[aj dP,<-aa (fc (gk OD)).symm])),aj List.drop_take_self];rfl
  erw[aj ec];have U:Ext H3 (upd H3 c (.list (aT [f0]))):=Ext.fresh Ext.refl hc;erw[ax (v:=.ref f0) us (dc rfl) rfl];generalize upd H3 c (.list (aT [f0]))=H4 at U;erw[Za,Z4,Za,Zo rfl,<-Zc l9 ?_,ax (v:=.ref r0) (U _ _ hr) (by rw[bG];exact OV DO rfl) rfl,Zb,aj e0,qc (U _ _ c2) (dc rfl),(r hr'),Zb,(p hp)];have x2:Ext H3 (upd H4 r (.list x.vs)):=Ext.fresh U (aI U hr');have f:Ext H3 (upd (upd H4 r (.list x.vs)) p (.list [.ref f0,.ref r])):=Ext.fresh x2 (aI x2 hp);have zr:g3.R r=0:=S.k.fresh (aI U hr');have zp:g3.R p=0:=S.k.fresh (aI x2 hp);have npr:r≠p:=aJ (bo hp).2;have Y:Pr (upd (upd H4 r (.list x.vs)) p (.list [.ref f0,.ref r])) p f0 r x:=⟨us,f _ _ c1,ae npr us⟩;generalize upd (upd H4 r (.list x.vs)) p (.list [.ref f0,.ref r])=H5 at f Y;have S5:=S.ext f;have W5:=W.keep (.ext f);erw[Zk,Zm,Zo rfl,<-Zc l0 ?_,ax (v:=.ref A.u) W5.hw (h3 _ _ _) rfl,<-fy (f _ _ pq) ⟨rfl,?_⟩,<-Zr l4 ?_,Za,Zo rfl,Zo rfl,<-Zc l9 ?_,ax (v:=.ref r0) (f _ _ hr) (by rw[bG];exact OV DO rfl) rfl,aj e0,ax (v:=.int x.t) (f _ _ c2) (dc rfl) rfl,Zb,bt (f _ _ pq) rfl,CZ R W5.hu W5.RU hk Y.e (by exact Yz C N) (lv hn rfl),(D E L Bf SV hu6)];have nwu:A.wl≠A.u:=bX W.rw W.ru (dc rfl);have mu6:E A.u≠none:=by refine' aj hu6 ?_;exact λz=>nomatch z
  have S6:=S5.off (a:=A.u) (by erw[aj W.ru];decide) L mu6;have yC:∀{a:Addr} {i:Nat},g3.R a=i->i≠8->a≠A.u:=λh1 h2=>bX h1 W.ru h2;have Kq:g3.R D=0:=S5.k.fresh Bf;have M:=L _ _ nwu W5.hw;have aaM:=L _ _ (yC W.rw2 (dc rfl)) W5.UQ;have j:Pr E p f0 r x:=⟨L _ _ (yC zp (dc rfl)) Y.p,L _ _ (yC P (dc rfl)) Y.e,L _ _ (yC zr (dc rfl)) Y.r⟩;have f6:∀a,E a=none->H3 a=none:=λa ha=>by
   cases h:H5 a with
   |none=>exact aI f h
   |some mo=>
    by_cases e:a=A.u
    ·exact absurd ha (e▸mu6)
    ·rw[L _ _ e h] at ha;injection ha
  erw[ZJ,Z9,Zo rfl,<-Zc l0 ?_,ax (v:=.ref A.w2) M (h3 _ _ _) rfl,Z7,ZC,Zv rfl,<-Zc l4 ?_,Zw,Zo rfl,<-Zc l0 ?_,ax M (h3 _ _ _) rfl,Z3,ie,ZW,aj (show((off+k:Nat):Int)+1-(off:Int)=((k+1:Nat):Int) by exact Yo),pQ aaM ⟨by exact Bm,by exact aU.mpr (bW (Mine.lq (Mine.Yw _ _ _) [((Mine.zp Mine.av (Mine.zn 1)),Mine.aX),(Mine.aX,(.mulL 2 (Mine.zp Mine.bT (Mine.zn 1)))),(.mulL 2 Mine.bT,.mulL 2 (Mine.zn 20)),((Mine.zp (Mine.zn 1152921504606846976) (Mine.zn 1)),(Mine.zp (Mine.zp Mine.av (Mine.zn 1)) (Mine.zn 1)))] rt OD C (aP 2 N)))⟩ trivial (by rw[hmr];exact bW (Mine.lq (Mine.Kq _ _) [(Mine.av,(.mulL 2 (Mine.zp Mine.aX (Mine.zn 1)))),(.mulL 2 Mine.aX,.mulL 2 (Mine.zn 20)),((Mine.zp (Mine.zn 100000) (Mine.zn 1)),Mine.av)] rt C (aP 2 N))),(d hd)];rewrite[NL];erw[c_ xj];have T:g3.R d=0:=S.k.fresh (f6 _ hd);have ndc:d≠D:=aJ (ne_sn SV hd);have x6:Ext E (upd E d (.list (aT ((es.drop (k+1)).map g3.mt)))):=Ext.fresh Ext.refl hd;have O:(upd E d (.list (aT ((es.drop (k+1)).map g3.mt)))) d=some (.list (aT ((es.drop (k+1)).map g3.mt))):=us;generalize upd E d (.list (aT ((es.drop (k+1)).map g3.mt)))=H7 at x6 O;erw[<-Zc l0 ?_,ZA,jc (x6 _ _ M) (h3 _ _ _) (dc rfl) (dc rfl),ZJ,Zv rfl,<-Zc l4 ?_,Zw,<-Zc l0 ?_,ZA,jc us (h3 _ _ _) (dc rfl) (dc rfl)];rewrite[bR];erw[aj (show((off+k:Nat):Int)+1=((off+k+1:Nat):Int) by exact PC)];show bN af w K aH n _ _ (upd H7 A.wl (.list [.ref A.u,.int ((off+k+1:Nat):Int),.ref d])) _ _;have S7:WS H g (upd H7 A.wl (.list [.ref A.u,.int ((off+k+1:Nat):Int),.ref d])) ((g3.set D 9).set d 10):=by
   have a:=(S6.set (a:=D) (n:=9) Kq (dc rfl) (by erw[aj SV,<-λz=>nomatch z])).ext x6;have b:=a.set (a:=d) (n:=10) ((fA ndc).trans T) (dc rfl) (by erw[aj O,<-λz=>nomatch z]);erw[<-b.upd (.inr ?_),aj (fA (λe=>by have:=W.rw;rw[e,T] at this;injection this)),aj (fA (λe=>by have:=W.rw;rw[e,Kq] at this;injection this)),aj W.rw]
   decide
  have m:∀a,g3.R a≠0->((g3.set D 9).set d 10).R a=g3.R a:=λa ha=>(fA (λe=>ha (by erw[aj e,aj T];rfl))).trans (fA (λe=>ha (aj e (aj Kq rfl))));have rf7:=(m _ (by erw[aj P];decide)).trans P;have S8:=S7.drop rf7;have nw:∀a,g3.R a≠7->a≠A.wl:=λa h e=>h (aj e (aj W.rw rfl));have st:∀a mo,g3.R a≠7->E a=some mo->(upd H7 A.wl (.list [.ref A.u,.int ((off+k+1:Nat):Int),.ref d])) a=some mo:=λa mo h q=>ae (nw a h) (x6 _ _ q);have dn:∀a,a≠f0->a≠g3.mt f0->(((g3.set D 9).set d 10).drop f0).R a=((g3.set D 9).set d 10).R a:=λa h1 h2=>p_ h1 h2;have nf:∀a,g3.R a≠4->g3.R a≠5->a≠f0/\a≠g3.mt f0:=λa h1 h2=>⟨λe=>h1 (aj e (aj P rfl)),λe=>h2 (aj e (aj c3 rfl))⟩;have W8:I0 (upd H7 A.wl (.list [.ref A.u,.int ((off+k+1:Nat):Int),.ref d])) (((g3.set D 9).set d 10).drop f0) ⟨A.wl,A.u,D,d⟩ (off+k+1) (es.drop (k+1)):=by
   have h7:=nf A.wl (by erw[aj W.rw];decide) (by erw[aj W.rw];decide);have h8:=nf A.u (by erw[aj W.ru];decide) (by erw[aj W.ru];decide);have h9:=nf D (by erw[aj Kq];decide) (by erw[aj Kq];decide);have Ql:=nf d (by erw[aj T];decide) (by erw[aj T];decide);refine⟨us,st _ _ (by erw[aj W.ru];decide) hu6,st _ _ (by erw[aj Kq];decide) SV,ae (nw d (by erw[aj T];decide)) O,λe he=>?_,W.nd.sublist (List.drop_sublist _ _),?_,?_,?_,?_⟩
   ·have rD:=W.DY e (JL he);have nef:e≠f0:=λq=>by
     have:=W.nd;rw[<-ui (k+1) es,iK,hk] at this;exact(iL.mp this).2.2 f0 (cC.mpr (.inr kf)) e he q.symm
    erw[aj (dn e nef (λq=>by rw[q,c3] at rD;cases rD)),aj (m _ (by erw[aj rD];decide)),aj rD];rfl
   ·erw[aj (dn _ h7.1 h7.2),aj (m _ (by erw[aj W.rw];decide)),aj W.rw];rfl
   ·erw[aj (dn _ h8.1 h8.2),aj (m _ (by erw[aj W.ru];decide)),aj W.ru];rfl
   ·erw[aj (dn _ h9.1 h9.2),aj (fA (aJ ndc)),aj gS];rfl
   ·erw[aj (dn _ Ql.1 Ql.2),aj gS];rfl
  have J:Pr (upd H7 A.wl (.list [.ref A.u,.int ((off+k+1:Nat):Int),.ref d])) p f0 r x:=⟨st _ _ (by erw[aj zp];decide) j.p,st _ _ (by erw[aj P];decide) j.e,st _ _ (by erw[aj zr];decide) j.r⟩;have F:(((g3.set D 9).set d 10).drop f0).R r=0:=by
   have h:=nf r (by erw[aj zr];decide) (by erw[aj zr];decide);have nrc:r≠D:=ne_sn Y.r Bf;have nrd:r≠d:=ne_sn j.r hd;erw[aj (dn _ h.1 h.2),aj (fA nrd),aj (fA nrc),aj zr];rfl
  have wp:WP (off+k+1) (es.drop (k+1)) (t+1):=⟨by have:=p1.lo;exact bW (Mine.lq (Mine.Yw _ _ _) [((Mine.zn 110),(Mine.zp Mine.av Mine.aX)),((Mine.zp (Mine.zp (Mine.zp (Mine.zp Mine.av Mine.bT) (Mine.zn 1)) Mine.aX) (Mine.zn 1)),(Mine.zn 110))] rt this),by exact bW (Mine.lq (Mine.zc4 _ _ _ _) [((Mine.zp Mine.av (Mine.zn 1)),Mine.aX),(Mine.aX,(.mulL 2 (Mine.zp Mine.bT (Mine.zn 1)))),(.mulL 2 Mine.bT,.mulL 2 (Mine.zn 20)),(Mine.gi,(Mine.zp (Mine.zn 144115188075855872) (.mulL 100 Mine.bT))),((Mine.zp (Mine.zp (Mine.zn 144115188075855872) (.mulL 100 (Mine.zp Mine.bT (Mine.zn 1)))) (Mine.zn 1)),(Mine.zp (Mine.zp Mine.gi Mine.av) (Mine.zn 1)))] rt OD C (aP 2 N) ho),by erw[aj eD,<-aw.mp (jY [(cN,dX),(fY,cN)] (fY,dX) rt (aw.mpr C) (aw.mpr (i5 _ _)))]⟩;have G:(((g3.set D 9).set d 10).drop f0).R f0=0:=Mf;generalize upd H7 A.wl (.list [.ref A.u,.int ((off+k+1:Nat):Int),.ref d])=H8 at S8 W8 J⊢;generalize ((g3.set D 9).set d 10).drop f0=g8 at S8 W8 F G;erw[Zk,Zq,Zr rfl,Za,Zv rfl,Zv rfl,<-Zc l3 ?_,dT (y:=42) rfl (iQ B).big rfl,dI (y:=4) rfl,Za,Zv rfl,<-Zc l3 ?_,dT (y:=168) rfl (iQ B).big rfl,Zb,IB R J c5 (by exact NF) (v9 B 168) (lv hn rfl),(s gx')];have S9:=(S8.upd (a:=r) (y:=.list s.vs) (.inl F)).upd (a:=f0) (y:=s.o) (.inl G);have W9:I0 (upd (upd H8 r (.list s.vs)) f0 s.o) g8 ⟨A.wl,A.u,D,d⟩ (off+k+1) (es.drop (k+1)):=W8.keep ((bJ.upd (by erw[aj F];unfold sW;decide)).trans (bJ.upd (by erw[aj G];unfold sW;decide)));have pr9:=J.put (x':=s);generalize upd (upd H8 r (.list s.vs)) f0 s.o=H9 at S9 W9 pr9;erw[Zt,ZY,Zz rfl,ot R pr9 gx' (lv hn rfl),Zx,Zp,Zq,<-Zr l0 ?_,Za,Zv rfl,<-Zc l3 ?_,dT (y:=42) rfl (iQ B).big rfl,Zb,xJ R (A:=⟨A.wl,A.u,D,d⟩) S9.c W9 (by erw[aj eD,<-aw.mp (aat [(ym 2 cN,ym 2 (ys dX)),(fY,ym 2 cN),(vH,fY),(ym 2 dX,ym 2 (yn 20)),(U2,vH)] (U2,yn 50) rt (d9 (aG (bh _ _)) (d0 2)) (aG (Int.natCast_mul _ _)) (aw.mpr C) (d9 (aw.mpr N) (d0 2)) (aw.mpr (i5 _ _)))]) (iQ (v9 B 42)) (lv hn rfl),<-bH Ext.refl (q _ _ (I.ws S9 (mJ _) ⟨⟨A.wl,A.u,D,d⟩,_,_,rfl,W9,wp⟩))]
end
theorem th(e:done++v::rest=nC k):v=.int (done.length:Int)/\done.length<k:=by
 have h:done.length<k:=by
  have:=congrArg cF e;unfold nC at this;rw[ah,aV,aq,d8] at this;exact Uu this
 have:(nC k)[done.length]?=some v:=by refine' c_ e ?_;simp
 unfold nC at this;rw[cP,J4 h] at this;exact⟨(bV this).symm,h⟩
theorem I0.re(W:I0 H2 g B off es)(f:g.R c=0)(z:g.R d=0)(n:c≠d)(h1:H6 B.wl=some (.list [.ref B.u,.int (YP:Int),.ref d]))(h2:H6 B.u=some (BK c YP))(h3:H6 c=some (.list (aT pS)))(h4:H6 d=some (.list (aT (pS.map g.mt))))(h5:∀e∈pS,g.R e=4)(h6:pS.Nodup):
  I0 H6 ((g.set c 9).set d 10) ⟨B.wl,B.u,c,d⟩ YP pS:=by
 have o:∀a i,g.R a=i->i≠0->((g.set c 9).set d 10).R a=i:=λa i h b=>((fA (λe=>b (c_ h (aj e (aj z rfl))))).trans (fA (λe=>b (c_ h (aj e (aj f rfl)))))).trans h;exact⟨h1,h2,h3,h4,λe j=>o _ _ (h5 e j) (dc rfl),h6,o _ _ W.rw (dc rfl),o _ _ W.ru (dc rfl),(fA n).trans gS,gS⟩
section
variable{G:Hp}
theorem PA(R:Rd af w K)(I:Inv nz pl ga ka wa t H g)(P:gF H g pl ts)(L:t<=20)(hy:y<2^38)(hn:aB 10 n=true)(q:∀H' g',Inv nz pl ga ka wa (t+1) H' g'->Q (.bool true) H'):aZ af w K n 977 [.ref wa,.ref pl,.int (j:Int),.int (y:Int)] H Q X:=by
 erw[R.uy.to rfl hn,(n hn),iD I.wait,(A l C eK W p)];subst eK;have jl:=P.len;have J:=p.lo;have hhi:=p.hi;have d5:=p.len;have h3:∀(u:Addr)(o:Int)(v:Addr),([V.ref u,.int o,.ref v]:List V).length<=100000:=λ_ _ _=>by show 3<=100000;decide
 have UK:y%(C.length+2)<C.length+2:=fT _ (dK [] (zs (zn 0),zk av 2) rt);erw[Zg,ZC,Zv rfl,Zf rfl rfl,ax (v:=.int (l:Int)) W.hw (h3 _ _ _) rfl,Z3,ZI rfl,Zv rfl,ZN,Za,Zf rfl rfl,ax (v:=.ref A.w2) W.hw (h3 _ _ _) rfl,Zb,dW W.UQ (by rw[bG,aq];exact YD d5 L rfl)];rw[bG,aq];erw[Zw,aj (show((C.length:Nat):Int)+2=((C.length+2:Nat):Int) by exact rfl),dI (d4.mpr (rE (ia _))),Zw,Zg,eR rfl,Zb,aj (show(l:Int)-1+((y%(C.length+2):Nat):Int)=((l-1+y%(C.length+2):Nat):Int) by exact da (Al [(.sub cN (yn 1),dX),(yp dX fY,vH)] (yp (.sub cN (yn 1)) fY,vH) rt (aG (ao (cW (aw.mp (jY [(cN,yp dX fY),(yn 110,cN),(fY,yn 20)] (yn 1,dX) rt (aG (bh _ _)) (aw.mpr J) (aw.mpr L)))))) (aG (ao (bh _ _)))) (Al [(cN,.sub dX (yn 1)),(fY,yp cN vH)] (fY,yp (.sub dX (yn 1)) vH) rt (aG (cW (aw.mp (jY [(cN,yp dX fY),(yn 110,cN),(fY,yn 20)] (yn 1,dX) rt (aG (bh _ _)) (aw.mpr J) (aw.mpr L))))) (aG (bh _ _))))];generalize OO:l-1+y%(C.length+2)=at_;intro F hF;have zF:g.R F=0:=I.claim.fresh hF;have x1:Ext H (upd H F (.list (aT ([].map λz:Tr=>z.p)))):=Ext.fresh Ext.refl hF;have P0:PW H g pl ts A l C F at_ (upd H F (.list (aT ([].map λz:Tr=>z.p)))) g []:=⟨(WS.refl I).ext x1,P.keep (.ext x1),W.keep (.ext x1),us,zF,(λ_ h=>nomatch h),by erw[aj tu];rewrite[bb];exact W.nd,(λ_ h=>nomatch h)⟩;show bN af w K aH n _ _ (upd H F (.list (aT ([].map λz:Tr=>z.p)))) _ _;generalize (upd H F (.list (aT ([].map λz:Tr=>z.p))))=H1 at P0;erw[oH,ZI rfl,Zv rfl,Zs rfl rfl,dT (y:=7) rfl (iQ (b_ hy (dc rfl))).big rfl,dI (y:=2) rfl,Zw,aj (show(1:Int)+((y / 7%2:Nat):Int)=((1+y / 7%2:Nat):Int) by exact Na)];generalize O:1+y / 7%2=k;erw[ie];refine uA (k:=k) (fp [(av,zp (zn 1) aX),(zs aX,zn 2)] (av,zn 1000) rt (aa (ao O)) kv) (λrest ρ H'=>∃done g' D,done++rest=nC k/\done.length=D.length/\PW H g pl ts A l C F at_ H' g' D/\ρ 0=some (.ref A.wl)/\ρ 1=some (.ref pl)/\ρ 2=some (.int (j:Int))/\ρ 3=some (.int (y:Int))/\ρ 4=some (.int (at_:Int))/\ρ 5=some (.ref F))
  ?_ (λρ H2=>(Mi · λdone B D e1 e2 PP N r1 r2 r3 r4 r5=>?_)) λv rest ρ H' ih=>(Mi · λdone g' D e1 e2 PP N r1 r2 r3 r4 r5=>?_)
 ·exact⟨[],g,[],rfl,rfl,P0,rfl,rfl,rfl,rfl,rfl,rfl⟩
 ·rw[bb] at e1;have T:D.length=k:=by refine' c_ e2 ?_;refine' aj e1 ?_;unfold nC;rewrite[aq];refine' aj d8 ?_;rfl
  rcases PP with⟨S2,P2,W2,U9,rF,tr,nd,ix⟩
  obtain ⟨f,E,M⟩:∃f E,D=f::E:=by
   induction D using lcs with
   |nil=>simp at T;exact(FQ [(av,zn 0),(zp (zn 1) aX,av)] rt (aa (ao T)) (aa O)).elim
   |cons f E=>exact⟨f,E,rfl⟩
  have pq:=W2.hu;unfold BK at pq;have trf:=tr f (by erw[aj M,<-kf]);erw[iE (S2.c.ent f.e (.inr trf.2.2.1)),(c1 c2 c3 c4 c5),Zk,Zm,Zo rfl,<-Zc N ?_,ax (v:=.ref A.u) W2.hw (h3 _ _ _) rfl,<-fy pq ⟨rfl,?_⟩,Za,ZK,<-Zc r5 ?_,<-tA (λz=>.ref z.e) U9 (by exact Qi O T) (λz S G' hG=>?_) λc hc=>?_]
  ·erw[Zf rfl rfl,<-ax (tr z S).1 (dc rfl) rfl hG]
  have ee:D.map (λz=>V.ref z.e)=aT (D.map (·.e)):=by unfold aT;refine' aj eu ?_;rfl
  erw[aj ee];have x2:Ext H2 (upd H2 c (.list (aT (D.map (·.e))))):=Ext.fresh Ext.refl hc;have Bf:(upd H2 c (.list (aT (D.map (·.e))))) c=some (.list (aT (D.map (·.e)))):=us;generalize upd H2 c (.list (aT (D.map (·.e))))=H3 at x2 Bf;have S3:=S2.ext x2;have W3:=W2.keep (.ext x2);erw[Zb,bt (x2 _ _ pq) rfl,Je R (f0:=f.e) (fs':=E.map (·.e)) (x:=B.en f.e) W3.hu W3.RU Bf (by erw[aj M];rfl) (x2 _ _ c1) (ix f (by erw[aj M];rfl)) (by exact YD d5 L rfl) (by rw[aq];exact gP [(av,zp (zn 1) aX),(bT,av),(zs aX,zn 2)] (bT,zn 10) rt (aa (ao O)) (aa T) kv) (Qh [(av,zp aX bT),(zs bT,zk gi 2),(zs aX,r_)] (av,zp r_ gi) rt (aa (ao OO)) UK (aa (bM (fp [(zn 110,zp av aX),(aX,zn 20)] (zn 1,av) rt J L)))) (lv hn rfl),(d H4 k4 hd Oi XN)];have nwu:A.wl≠A.u:=bX W2.rw W2.ru (dc rfl);have mu4:H4 A.u≠none:=by refine' aj XN ?_;exact λz=>nomatch z
  have S4:=S3.off (a:=A.u) (by erw[aj W2.ru];decide) k4 mu4;have yC:∀{a:Addr} {i:Nat},B.R a=i->i≠8->a≠A.u:=λh1 h2=>bX h1 W2.ru h2;have zd:B.R d=0:=S3.k.fresh hd;have f4:∀a,H4 a=none->H3 a=none:=λa ha=>by
   cases h:H3 a with
   |none=>rfl
   |some mo=>
    by_cases e:a=A.u
    ·exact absurd ha (e▸mu4)
    ·rw[k4 _ _ e h] at ha;injection ha
  have Wu:=k4 _ _ nwu W3.hw;have abY:=k4 _ _ (yC W2.rw2 (dc rfl)) W3.UQ;have QI:=k4 _ _ (yC rF (dc rfl)) (x2 _ _ U9);have tr4:∀z∈D,H4 z.p=some (.list [.ref z.e,.ref z.r]):=λz S=>k4 _ _ (yC (tr z S).2.1 (dc rfl)) (x2 _ _ (tr z S).1);erw[Zg,ZK,<-Zc r5 ?_,<-tA (λz=>.ref z.r) QI (by exact Qi O T) (λz S G' hG=>?_) λb hb=>?_]
  ·erw[Zf rfl rfl,<-ax (tr4 z S) (dc rfl) rfl hG]
  have er:D.map (λz=>V.ref z.r)=aT (f.r::E.map (·.r)):=by unfold aT;refine' aj M ?_;simp
  have em:(D.map (·.e)).map B.mt=f.r::E.map (·.r):=by
   erw[aj eu];have:=dR λz S=>(tr z S).2.2.2.1;erw[aj this,aj M];rfl
  erw[aj er];have zb:B.R b=0:=S4.k.fresh hb;have nbd:d≠b:=ne_sn Oi hb;have G:Ext H4 (upd H4 b (.list (aT (f.r::E.map (·.r))))):=Ext.fresh Ext.refl hb;have Yp:(upd H4 b (.list (aT (f.r::E.map (·.r))))) b=some (.list (aT (f.r::E.map (·.r)))):=us;generalize upd H4 b (.list (aT (f.r::E.map (·.r))))=H5 at G Yp;have S5:=S4.ext G;have DY:∀m,∀e∈C.take m++D.map (·.e),B.R e=4:=λm e he=>by
   rcases cC.mp he with he|he
   ·exact W2.DY e (mB he)
   ·erw[ay (cK.mp he),(z S iP)];subst iP;exact(tr z S).2.2.1
  have TA:∀m,(C.take m++D.map (·.e)).Nodup:=λm=>nd.sublist ((List.take_sublist m C).append_right _);have nw:∀a,B.R a≠7->a≠A.wl:=λa h e=>h (aj e (aj W2.rw rfl));erw[Zh,ZH,<-Zc r4 ?_,Zo rfl,<-Zc N ?_,ax (v:=.int (l:Int)) (G _ _ Wu) (h3 _ _ _) rfl,<-DS (λe=>?_) (λe=>?_)]
  ·have hle:at_<=l:=by exact Tp e
   rw[show at_-l=0 by exact XE e] at Oi;have hmn:min l at_=at_:=mf hle;rw[hmn] at XN;erw[Zp,ZJ,<-Zc r4 ?_,<-Zc N ?_,ZA,jc (G _ _ Wu) (h3 _ _ _) (dc rfl) (dc rfl),ZJ,Zc rfl,<-Zc N ?_,ZA,jc us (h3 _ _ _) (dc rfl) (dc rfl)];rw[bR];have g1:∀a mo,B.R a≠7->H4 a=some mo->(upd H5 A.wl (.list [.ref A.u,.int (at_:Int),.ref b])) a=some mo:=λa mo h q=>ae (nw a h) (G _ _ q);have gb:(upd H5 A.wl (.list [.ref A.u,.int (at_:Int),.ref b])) b=some (.list (aT (f.r::E.map (·.r)))):=ae (nw b (by erw[aj zb];decide)) Yp;have W6:=W2.re zd zb nbd us (g1 _ _ (by erw[aj W2.ru];decide) XN) (g1 _ _ (by erw[aj zd];decide) Oi) (by erw[aj kQ];rewrite[jE];erw[aj em,<-gb]) (DY 0) (TA 0);have S6:WS H g (upd H5 A.wl (.list [.ref A.u,.int (at_:Int),.ref b])) ((B.set d 9).set b 10):=by
    have a1:=S5.set (a:=d) (n:=9) zd (dc rfl) (by erw[aj (G _ _ Oi),<-λz=>nomatch z]);have a2:=a1.set (a:=b) (n:=10) ((fA (aJ nbd)).trans zb) (dc rfl) (by erw[aj Yp,<-λz=>nomatch z]);exact a2.upd (.inr (by erw[aj W6.rw];decide))
   erw[Ze,Zd,<-BC R (A:=⟨A.wl,A.u,d,b⟩) (k:=0) I S6 W6 L ⟨Qh [(zn 110,zp av aX),(zp bT gi,r_),(av,zs bT)] (zn 110,zp r_ (zs aX)) rt J (aa OO) (iZ qQ),gP [(av,zp (zn 144115188075855872) (zm 100 aX)),(bT,av)] (bT,zp (zn 144115188075855872) (zm 100 (zs aX))) rt hhi hle,by erw[aj kQ];rewrite[jE,aq];exact yj [(av,zp (zn 1) aX),(bT,av),(zs aX,zn 2)] (bT,zm 2 (zs gi)) rt (aa (ao O)) (aa T) kv⟩ (aw.mp (jY [(cN,dX),(fY,cN)] (fY,dX) rt (aw.mpr hhi) e)) (f0:=f.e) (by erw[aj kQ];rewrite[jE];erw[aj M];rfl) gb (trf.2.2.2.1).symm N r3 r4 rfl (b_ hy (dc rfl)) (by have:=congrArg cF M;rw[aV] at this;rw[aq];exact QJ O T this) (lv hn rfl) q]
  ·have hgt:l<at_:=by exact zo7 e
   have hmn:min l at_=l:=fc (gk hgt);rw[hmn] at XN;have Y:at_-l<=C.length:=UY [(zs av,zk aX 2),(bT,zp gi av),(zp r_ ED,bT),(zs gi,ED)] (r_,aX) rt UK (aa (ao OO)) (aa (bM (fp [(zs av,aX)] (av,aX) rt hgt))) (aa (bM (fp [(av,zn 20),(zn 110,zp aX av)] (zn 1,aX) rt L J)));have U:(C.take (at_-l)).length=at_-l:=by refine' aj dP ?_;exact fc Y
   erw[Zi,ZJ,Zv rfl,Z9,Zo rfl,<-Zc N ?_,ax (v:=.ref A.w2) (G _ _ Wu) (h3 _ _ _) rfl,ZW,Z7,<-ZI r4 ?_,Zo rfl,<-Zc N ?_,ax (v:=.int (l:Int)) (G _ _ Wu) (h3 _ _ _) rfl,Z3,ie,aj (show(at_:Int)-(l:Int)=((at_-l:Nat):Int) by exact da (jY [(.sub cN dX,fY)] (.sub cN dX,fY) rt (aG (ao (cW (aw.mp (oE [(ys cN,dX)] (cN,dX) rt e)))))) (jY [(cN,.sub dX fY)] (cN,.sub dX fY) rt (aG (cW (aw.mp (oE [(ys cN,dX)] (cN,dX) rt e)))))),pQ (G _ _ abY) trivial ⟨by exact Bm,Int.lt_of_lt_of_le (aU.mpr (show at_-l<1152921504606846976 from gP [(av,aX),(aX,zm 2 bT),(zm 2 bT,zm 2 (zn 20))] (zs av,zn 1152921504606846976) rt Y d5 (aP 2 L))) (dc rfl)⟩ (by rw[bG,aq];exact YD d5 L rfl),(s hs)];have ecu:cut (aT (C.map B.mt)) none (some ((at_-l:Nat):Int))=aT ((C.take (at_-l)).map B.mt):=by rw[C0];unfold aT;refine' c_ jC ?_;refine' c_ jC ?_;rfl
   erw[aj ecu];have x6:Ext H5 (upd H5 s (.list (aT ((C.take (at_-l)).map B.mt)))):=Ext.fresh Ext.refl hs;have hs6:(upd H5 s (.list (aT ((C.take (at_-l)).map B.mt)))) s=some (.list (aT ((C.take (at_-l)).map B.mt))):=us;generalize upd H5 s (.list (aT ((C.take (at_-l)).map B.mt)))=H6 at x6 hs6;erw[Dk hs6 (x6 _ _ Yp) (by rewrite[bG,bG,aq];erw[aj U,aj aV];rewrite[aq];have:=congrArg cF M;rw[aV] at this;exact lr7 [(zm 2 av,zm 2 (zn 20)),(aX,zm 2 av),(bT,aX),(gi,zp (zn 1) r_),(ED,gi),(Vb,ED),(zs r_,zn 2)] (zp bT Vb,zn 100000) rt (aP 2 L) d5 Y (aa (ao O)) (aa T) (aa (ao this)) kv),(o ho)];have eap:aT ((C.take (at_-l)).map B.mt)++aT (f.r::E.map (·.r))=aT ((C.take (at_-l)++D.map (·.e)).map B.mt):=by
    erw[aj aY,aj em];unfold aT;erw[aj aY];rfl
   erw[aj eap];have zo:B.R o=0:=S5.k.fresh (aI x6 ho);have ndo:d≠o:=ne_sn (x6 _ _ (G _ _ Oi)) ho;have x7:Ext H6 (upd H6 o (.list (aT ((C.take (at_-l)++D.map (·.e)).map B.mt)))):=Ext.fresh Ext.refl ho;have ho7:(upd H6 o (.list (aT ((C.take (at_-l)++D.map (·.e)).map B.mt)))) o=some (.list (aT ((C.take (at_-l)++D.map (·.e)).map B.mt))):=us;generalize upd H6 o (.list (aT ((C.take (at_-l)++D.map (·.e)).map B.mt)))=H7 at x7 ho7;have Y1:=x6.trans x7;erw[<-Zc N ?_,ZA,jc (Y1 _ _ (G _ _ Wu)) (h3 _ _ _) (dc rfl) (dc rfl)];have g1:∀a mo,B.R a≠7->H4 a=some mo->(upd H7 A.wl (.list [.ref A.u,.int (l:Int),.ref o])) a=some mo:=λa mo h q=>ae (nw a h) (Y1 _ _ (G _ _ q));have gb:(upd H7 A.wl (.list [.ref A.u,.int (l:Int),.ref o])) b=some (.list (aT (f.r::E.map (·.r)))):=ae (nw b (by erw[aj zb];decide)) (Y1 _ _ Yp);have W6:=W2.re zd zo ndo us (g1 _ _ (by erw[aj W2.ru];decide) XN) (g1 _ _ (by erw[aj zd];decide) Oi) (ae (nw o (by erw[aj zo];decide)) ho7) (DY _) (TA _);have S6:WS H g (upd H7 A.wl (.list [.ref A.u,.int (l:Int),.ref o])) ((B.set d 9).set o 10):=by
    have a1:=(S5.ext Y1).set (a:=d) (n:=9) zd (dc rfl) (by erw[aj (Y1 _ _ (G _ _ Oi)),<-λz=>nomatch z]);have a2:=a1.set (a:=o) (n:=10) ((fA (aJ ndo)).trans zo) (dc rfl) (by erw[aj ho7,<-λz=>nomatch z]);exact a2.upd (.inr (by erw[aj W6.rw];decide))
   erw[Ze,Zd,<-BC R (A:=⟨A.wl,A.u,d,o⟩) (k:=at_-l) I S6 W6 L ⟨by exact VQ J,by exact VF hhi,by erw[aj ah,aj U];rewrite[aq];exact UY [(av,zm 2 aX),(bT,av),(gi,zp (zn 1) r_),(ED,gi),(zs r_,zn 2)] (zp bT ED,zm 2 (zs aX)) rt d5 Y (aa (ao O)) (aa T) kv⟩ (by assumption) (f0:=f.e) (by erw[aj (iW (aw.mp (oE [(cN,dX)] (cN,dX) rt (aG (congrArg gX U))))),aj U];rewrite[oC];erw[aj M];rfl) gb (trf.2.2.2.1).symm N r3 (by erw[aj (show l+(at_-l)=at_ by exact aS (aw.mp (Al [(cN,.sub dX fY),(vH,yp fY cN)] (vH,dX) rt (aG (cW (aw.mp (oE [(ys cN,dX)] (cN,dX) rt e)))) (aG (bh _ _)))) (aw.mp (Al [(.sub cN dX,fY),(yp dX fY,vH)] (cN,vH) rt (aG (ao (cW (aw.mp (oE [(ys cN,dX)] (cN,dX) rt e))))) (aG (ao (bh _ _)))))),<-r4]) rfl (b_ hy (dc rfl)) (by have:=congrArg cF M;rw[aV] at this;rw[aq];exact QJ O T this) (lv hn rfl) q]
 ·erw[aD (th e1),(lj hlt)];subst lj;have M:D.length<=1:=by exact yj [(av,zp (zn 1) aX),(zs bT,av),(gi,bT),(zs aX,zn 2)] (gi,zn 1) rt (aa (ao O)) hlt (aa (ao e2)) kv
  erw[Jq R PP hy (UY [(av,zp aX bT),(gi,zp (zn 144115188075855872) (zm 100 r_)),(zs bT,zk ED 2),(zm 102 r_,zm 102 (zn 20)),(ED,zm 2 r_),(aX,gi)] (zs av,zn 1152921504606846976) rt (aa (ao OO)) hhi UK (aP 102 L) d5 (i5 _ _)) M r1 r2 r3 r4 r5 (by erw[c_ e2];rfl) (lv hn rfl),(H2 B z v1 v2 P3),<-⟨trivial,ih _ _ ⟨done++[.int (done.length:Int)],B,D++[z],by erw[c_ e1];rewrite[aC];rfl,by erw[aj ah,aj ah,aj e2];rfl,P3,N,r1,r2,r3,r4,r5⟩⟩]
end
theorem ja.put{H:Hp}{g:Gh}(C:Cells H g)(j:g.R e=1)(o:10<=b)(m:ja H g b A h sn rej cj):ja (upd (upd H (g.mt e) y') e z') (g.put e x) b A h sn rej cj:=by
 have s:=rmt C j;rcases m with⟨m1,m2,m3,m4,m5,m6,m7,m8,m9,QW,QH,QL,Qt⟩
 have k:bJ (λn=>n=3\/(b<=n/\n<=b+10)) H g (upd (upd H (g.mt e) y') e z') (g.put e x):=.put (aj j (λt=>t.elim (λi=>DE [(zn 3,zn 1)] rt (aa (ao i))) (λi=>cH [(zn 10,av),(av,zn 1)] rt o i.1))) (aj s (λW=>W.elim (λK=>DE [(zn 3,zn 2)] rt (aa (ao K))) (λK=>cH [(zn 10,av),(av,zn 2)] rt o K.1)));have d:∀a n f,g.R a=n->b<=n->n<=b+10->H a=some f->(upd (upd H (g.mt e) y') e z') a=some f:=λa n f e l u q=>k.h a f (.inr (⟨gP [(av,aX),(bT,av)] (bT,aX) rt (aa (ao e)) l,gP [(av,aX),(aX,bT)] (av,bT) rt (aa e) u⟩)) q;exact⟨d _ _ _ m8 qQ uX m1,d _ _ _ m9 uX (vG rfl) m2,d _ _ _ QW uX (vG rfl) m3,d _ _ _ QH uX (vG rfl) m4,d _ _ _ QL uX (vG rfl) m5,λy c=>⟨(m6 y c).p,k.h _ _ (.inl (m6 y c).p) (m6 y c).h,(m6 y c).e,(m6 y c).r⟩,m7.keep k (λn l u=>.inr ⟨Xx l,u⟩) Qt,m8,m9,QW,QH,QL,Qt⟩
section
variable{H':Hp}{g':Gh}
theorem Inv.far(I:Inv nz pl ga ka wa t H g)(k:bJ (λn=>n≠0/\n<=30) H g H' g')(F:g'.en=g.en)(G:∀a,g'.R a=g.R a\/30<g'.R a)(C:Claim H' g'):Inv nz pl ga ka wa t H' g':=by
 erw[iD I.wait,(B o O e2 w q),iS I.msg,(A h z r S e1 M p),bf I.y6,(ts P),dg I.cmd,(D c e3 E T),<-⟨I.cells.keep (k.sub λn h=>by exact⟨λX=>cH [(zn 1,av),(av,zn 0)] rt h.1 (aa X),dK [(av,zn 5)] (av,zn 30) rt h.2⟩) (λa _ _=>by erw[aj F];rfl) (λa h1 h2=>?_),C,⟨ts,P.keep (k.sub λn h=>by exact⟨λb=>h.elim (λm=>cH [(av,zn 0),(zn 1,av)] rt (aa b) (aa (ao m))) (λm=>m.elim (λK=>cH [(av,zn 0),(zn 3,av)] rt (aa b) (aa (ao K))) (λK=>cH [(av,zn 0),(zn 6,av)] rt (aa b) (aa (ao K)))),h.elim (λx=>dK [(av,zn 1)] (av,zn 30) rt (aa x)) (λx=>x.elim (λy=>dK [(av,zn 3)] (av,zn 30) rt (aa y)) (λy=>dK [(av,zn 6)] (av,zn 30) rt (aa y)))⟩)⟩,⟨A,h,z,r,S,e1,M.keep (k.sub λn h=>by unfold oG at h;exact⟨λd=>h.elim (λl=>cH [(av,zn 0),(zn 1,av)] rt (aa d) (aa (ao l))) (λl=>l.elim (λJ=>cH [(av,zn 0),(zn 3,av)] rt (aa d) (aa (ao J))) (λJ=>cH [(av,zn 0),(zn 20,av)] rt (aa d) J.1)),h.elim (λf=>dK [(av,zn 1)] (av,zn 30) rt (aa f)) (λf=>f.elim (λL=>dK [(av,zn 3)] (av,zn 30) rt (aa L)) (λL=>dK [(av,zk (zn 20) 10)] (av,zn 30) rt L.2))⟩),p⟩,⟨D,c,e3,E.keep (k.sub λn h=>by exact⟨λs=>h.elim (λe=>cH [(av,zn 0),(zn 11,av)] rt (aa s) (aa (ao e))) (λe=>e.elim (λj=>cH [(av,zn 0),(zn 12,av)] rt (aa s) (aa (ao j))) (λj=>cH [(av,zn 0),(zn 13,av)] rt (aa s) (aa (ao j)))),h.elim (λN=>dK [(av,zn 11)] (av,zn 30) rt (aa N)) (λN=>N.elim (λv=>dK [(av,zn 12)] (av,zn 30) rt (aa v)) (λv=>dK [(av,zn 13)] (av,zn 30) rt (aa v)))⟩),T⟩,⟨B,o,O,e2,w.keep (k.sub λn h=>by unfold sW at h;exact⟨λQ=>h.elim (λi=>cH [(av,zn 0),(zn 4,av)] rt (aa Q) (aa (ao i))) (λi=>cH [(av,zn 0),(zn 7,av)] rt (aa Q) i.1),h.elim (λu=>dK [(av,zn 4)] (av,zn 30) rt (aa u)) (λu=>dK [(av,zn 10)] (av,zn 30) rt u.2)⟩),q⟩,I.num.keep (k.sub λn h=>by exact⟨λV=>cH [(zn 14,av),(av,zn 0)] rt (aa (ao h)) (aa V),dK [(av,zn 14)] (av,zn 30) rt (aa h)⟩)⟩];rcases G a with h|h
 ·exact h.symm
 ·exact aS ((cH [(zs (zn 30),av),(av,zn 5)] rt h h2).elim) ((cH [(zs (zn 30),av),(av,zn 5)] rt h h2).elim)
theorem bJ.alloc(C:Claim H g)(h:H a=none):bJ (λn=>n≠0) H g (Mine.upd H a mo) (g.set a n):=
 (bJ.ext (Ext.fresh Ext.refl h)).trans (bJ.set λq=>q (C.fresh h))
theorem Inv.alloc{n:Nat}(I:Inv nz pl ga ka wa t H g)(h:H a=none)(c:30<n):Inv nz pl ga ka wa t (upd H a mo) (g.set a n):=by
 refine I.far ((bJ.alloc I.claim h).sub λn h=>h.1) rfl (λb=>?_) ((I.claim.ext (Ext.fresh Ext.refl h)).set (by rw[cX];exact λz=>nomatch z))
 by_cases e:b=a
 ·exact .inr (aj e (aj gS c))
 ·exact .inl (fA e)
theorem EC:∀(ts:List Tr)(xs:List En) {g:Gh},Inv nz pl ga ka wa t H g->i_ H ts xs->(∀x∈xs,x.Good)->(∀t∈ts,Fz g t)->(ts.map (·.p)).Nodup->(ts.map (·.e)).Nodup->(ts.map (·.r)).Nodup->
  ∃g',Inv nz pl ga ka wa t H g'/\bJ (λn=>n≠0) H g H g'/\(∀t∈ts,tZ H g' t)/\∀a,(∀t∈ts,a≠t.p/\a≠t.e/\a≠t.r)->g'.R a=g.R a
 |[],[],g,I,_,_,_,_,_,_=>⟨g,I,.ext .refl,(λ_ h=>nomatch h),λ_ _=>rfl⟩
 |z::ts,x::xs,g,I,⟨pr,BL⟩,gx,fz,n1,n2,n3=>by
  erw[aD (gg.mp n1),(m l),aD (gg.mp n2),(k j),aD (gg.mp n3),(i d)];have E:=I.qO (fz z kf) Ext.refl pr (gx x kf);have B:bJ (λn=>n≠0) H g H (g.twin z x):=.qO (fz z kf) Ext.refl (λh=>h rfl);have o:∀a,a≠z.p->a≠z.e->a≠z.r->(g.twin z x).R a=g.R a:=λ_ A w v=>by
   show(if _=z.p then 3 else if _=z.e then 1 else if _=z.r then 2 else g.R _)=_;erw[aj (if_neg A),aj (if_neg w),aj (if_neg v)];rfl
  have K:∀y∈ts,∃u,Pr H y.p y.e y.r u:=by
   clear o B E i k m n1 n2 n3 fz pr gx;intro y b
   induction ts generalizing xs with
   |nil=>cases b
   |cons s ts L=>
    induction xs using lcs with
    |nil=>exact BL.elim
    |cons F xs=>
     rcases bE.mp b with h|h
     ·exact⟨F,h▸BL.1⟩
     ·exact L xs BL.2 (gg.mp l).2 (gg.mp j).2 (gg.mp d).2 h
  refine fh (EC ts xs E BL (λy b=>gx y (fV b)) (λy b=>by
   erw[bf (K y b),(u c)];have m1:y.p≠z.p:=λe=>m (cK.mpr ⟨y,b,e⟩);have m2:y.e≠z.e:=λe=>k (cK.mpr ⟨y,b,e⟩);have m3:y.r≠z.r:=λe=>i (cK.mpr ⟨y,b,e⟩);have f:=fz y (fV b);exact⟨(o _ m1 (fU c.p pr.e (λq=>by injection q)) (fU c.p pr.r (λq=>by cases q))).trans f.p,(o _ (fU c.e pr.p (λq=>by injection q)) m2 (fU c.e pr.r (λq=>by injection q))).trans f.e,(o _ (fU c.r pr.p (λq=>by cases q)) (fU c.r pr.e (λq=>by injection q)) m3).trans f.r⟩) l j d) ?_
  erw[(g' M C G J),<-⟨g',M,B.trans C,λy b=>?_,λa D=>?_⟩]
  ·rcases bE.mp b with h|h
   ·exact h▸(zv pr).keep C (dc rfl) (dc rfl)
   ·exact G y h
  ·erw[cA (D z kf),(A w v),<-(J a λy b=>D y (fV b)).trans (o a A w v)]
 |[],_::_,_,_,h,_,_,_,_,_=>h.elim
 |_::_,[],_,_,h,_,_,_,_,_=>h.elim
end
noncomputable def Gh.move(g:Gh):Gh:={g with R:=λa=>if 41<=g.R a/\g.R a<=50 then g.R a-20 else g.R a}
theorem Cu(h:g.R a<=40):g.move.R a=g.R a:=if_neg (λX=>cH [(av,zn 40),(zn 41,av)] rt h X.1)
theorem jg(h:g.R a=40+i)(h1:1<=i)(h2:i<=10):g.move.R a=20+i:=by
 have:g.move.R a=g.R a-20:=if_pos (⟨fp [(zn 1,av),(zp (zn 40) av,aX)] (zn 41,aX) rt h1 (aa (ao h)),fp [(av,zn 10),(aX,zp (zn 40) av)] (aX,zn 50) rt h2 (aa h)⟩);exact aS (yj [(av,zp (zn 40) aX),(bT,gi),(zk gi 20,av)] (bT,zp (zn 20) aX) rt (aa h) (aa this) (aa (bM (fp [(zp (zn 40) av,aX)] (zn 20,aX) rt (aa (ao h)))))) (yj [(zp (zn 40) av,aX),(bT,gi),(aX,zk bT 20)] (zp (zn 20) av,gi) rt (aa (ao h)) (aa (ao this)) (aa (ao (bM (fp [(zp (zn 40) av,aX)] (zn 20,aX) rt (aa (ao h)))))))
theorem bJ.move{H:Hp}{g:Gh}(h:∀n,s n->n<=40):bJ s H g H g.move:=⟨λa k=>Cu (h _ k),λ_ _=>rfl,λ_ _ _ q=>q⟩
theorem ja.move{H:Hp}{g:Gh}(m:ja H g 40 B h sn rej cj)(r:g.R gl=20):ja (upd H gl (.list (B.gv rej cj))) g.move 20 {B with gl:=gl} h sn rej cj:=by
 have k:bJ (λn=>n=1\/n=3) H g (upd H gl (.list (B.gv rej cj))) g.move:=(bJ.upd (aj r (dc rfl))).trans (.move λn h=>by exact h.elim (λN=>dK [(av,zn 1)] (av,zn 40) rt (aa N)) (λN=>dK [(av,zn 3)] (av,zn 40) rt (aa N)));have st:∀a n b,g.R a=n->40<=n->H a=some b->(upd H gl (.list (B.gv rej cj))) a=some b:=λa n b e l q=>ae (bX e r (λe=>cH [(zn 40,av),(av,zn 20)] rt l (aa e))) q;rcases m with⟨m1,m2,m3,m4,m5,m6,m7,m8,m9,QW,QH,QL,Qt⟩
 refine⟨us,st _ _ _ m9 (dc rfl) m2,st _ _ _ QW (dc rfl) m3,st _ _ _ QH (dc rfl) m4,st _ _ _ QL (dc rfl) m5,λy d=>(m6 y d).keep k (.inl rfl) (.inr rfl),?_,(Cu (aj r (dc rfl))).trans r,jg m9 (dc rfl) (dc rfl),jg QW (dc rfl) (dc rfl),jg QH (dc rfl) (dc rfl),jg QL (dc rfl) (dc rfl),λz c=>?_⟩
 ·exact m7.keep (bJ.upd (aj r (dc rfl))) (λn l u=>l) Qt
 ·rcases Qt z c with⟨z1,z2,z3,z4,z5,z6,z7,z8⟩
  exact⟨jg z1 (dc rfl) (dc rfl),jg z2 (dc rfl) (dc rfl),jg z3 (dc rfl) (dc rfl),jg z4 (dc rfl) (dc rfl),jg z5 (dc rfl) (dc rfl),jg z6 (dc rfl) (dc rfl),jg z7 (dc rfl) (dc rfl),jg z8 (dc rfl) (dc rfl)⟩
section
variable{G:Hp}
def G0:E:=.or [(.not (bD 878 [fJ])),(.cmp .NotEq (bD 589 [(bw aN 0)]) (bD 854 [aN]))]
theorem DK(R:Rd af w K)(C:Cells H g)(M:ja H g 20 A h sn rej cj)(p:jz h sn cj A.tr t)(N:ja H g 40 B h' E_ rR ctx')(d:jz h' E_ ctx' B.tr t)(r:ρ 0=some (.ref A.gl))(c:ρ 5=some (.ref B.gl))(b:aB 9 n=true)(q:F false H):tG af w K aH n G0 ρ H F X:=by
 have a:=M.mb C;have o1:=ja.big (C:=C) M p;have e:=a.m;unfold G0;erw[ZT,Zn,ZP,<-Zab c ?_,sN R (N.mb C) (ja.big (C:=C) N d) (lv b rfl),Zx,ZM,Zn,ZH,Zq,Za,Zo rfl,<-Zc r ?_,ax a.g (dc rfl) rfl,Zb,<-fW R e a.me a.BL.OU a.sn.Pf o1.big (lv b rfl) (λ_=>?_) (λz=>absurd o1.Hx z),<-Zz r ?_,tc R a o1 (lv b rfl),pX,ZM,ZD,<-q]
theorem Ae(R:Rd af w K)(I:Inv nz pl ga ka wa t H g)(o:10<=b)(c:10<=b')(M:ja H g b A h sn rej cj)(N:ja H g b' B h' E_ rR ctx')(l:i<A.tr.length){f:Nat}(m:f<=3)(j:y<2^39)(k:aB 2 n=true)(q:∀a d,Inv nz pl ga ka wa t a d->ja a d b A h sn rej cj->ja a d b' B h' E_ rR ctx'->Q .none a):aZ af w K n 811 [.ref (A.tr[i]).p,.int (f:Int),.int (y:Int)] H Q X:=by
 have z:=M.ht _ (fP l);refine pn R I z m j k λx r=>q _ _ r (M.put I.cells z.e o) (N.put I.cells z.e c)
def HV:List S:=[.expr (bD 885 [aN,(ek 5),(bD 783 [(bw (bw aN 1) 5),(.bin .FloorDiv bA (ek 2))])]),.dp (.cmp .Gt (.call .len [(bw aN 3)]) (ek 0)) [.expr (bD 811 [(bw (bw aN 3) 0),(ek 3),(.bin .FloorDiv bA (ek 3))])] [],.dp G0 [dj (.cst (.bool false))] [],.expr (bD 885 [fJ,(ek 6),(bD 783 [(bw (bw fJ 1) 6),(.bin .FloorDiv bA (ek 5))])]),.dp (.cmp .Gt (.call .len [dQ]) (ek 0)) [.expr (bD 811 [(bw dQ 0),(ek 0),(.bin .FloorDiv bA (ek 6))])] [],.dp G0 [dj (.cst (.bool false))] [],.forR 6 none (ek 6) [.hX aN jW (.sub fJ jW)],dj (.cst (.bool true))]
theorem Jb(R:Rd af w K)(I:Inv nz pl ga ka wa t H g)(Pt:A.gl=ga)(M:ja H g 20 A h sn rej cj)(p:jz h sn cj A.tr t)(N:ja H g 40 B d E_ rR ctx')(j:jz d E_ ctx' B.tr t)(o:ρ 0=some (.ref A.gl))(T:ρ 1=some (.int (y:Int)))(r3:ρ 3=some (.ref B.g3))(C:ρ 5=some (.ref B.gl))(F:y<2^39)(G:aB 9 n=true)(q:∀S g',Inv nz pl ga ka wa t S g'->Q (.bool true) S):bN af w K aH n HV ρ H (dF Q) (cG X):=by
 have h6:∀(A:CB) r c,(A.gv r c).length<=100000:=λA r c=>by show 6<=100000;decide
 have h8:∀h,(hl h).length<=100000:=λh=>by show 8<=100000;decide
 have lA:=p.len;have lB:=j.len;have stC:∀(H:Hp)(g:Gh) h d,Inv nz pl ga ka wa t H g->ja H g 20 A h sn rej cj->jz h sn cj A.tr t->ja H g 40 B d E_ rR ctx'->jz d E_ ctx' B.tr t->bN af w K aH n [.dp G0 [dj (.cst (.bool false))] [],.forR 6 none (ek 6) [.hX aN jW (.sub fJ jW)],dj (.cst (.bool true))] ρ H (dF Q) (cG X):=λH g h d I M p N j=>by
  erw[Zh,DK R I.cells M p N j o C (lv G rfl),Zi,Ze,Zd,oH,ZA,aj (show(6:Int)=((6:Nat):Int) from rfl),ie];have V:=bX N.rg M.rg (dc rfl);have la:(A.gv rej cj).length=6:=rfl;have lb:(B.gv rR ctx').length=6:=rfl;have st:∀i,i<6->∃v,(B.gv rR ctx')[i]?=some v/\((B.gv rR ctx').take i++(A.gv rej cj).drop i).set i v=(B.gv rR ctx').take (i+1)++(A.gv rej cj).drop (i+1):=λi hi=>by
   refine nb6 hi ?_ ?_ ?_ ?_ ?_ ?_
   ·exact⟨_,rfl,rfl⟩
   ·exact⟨_,rfl,rfl⟩
   ·exact⟨_,rfl,rfl⟩
   ·exact⟨_,rfl,rfl⟩
   ·exact⟨_,rfl,rfl⟩
   ·exact⟨_,rfl,rfl⟩
  refine uA (k:=6) (dc rfl) (λE ρ S=>∃done,done++E=nC 6/\ρ 0=some (.ref A.gl)/\ρ 5=some (.ref B.gl)/\S=upd H A.gl (.list ((B.gv rR ctx').take done.length++(A.gv rej cj).drop done.length)))
   ⟨[],rfl,o,C,(nB M.hg).symm⟩ (λρ U=>(fh · λdone e1 o C e2=>?_)) λv E ρ S ih=>(fh · λdone e1 o C e2=>?_)
  ·rw[bb] at e1;rw[e1] at e2;have e3:=e2;subst e3;erw[ZO rfl];have x:=N.move M.rg;have J:bJ (λn=>1<=n/\n<=14) H g (upd H A.gl (.list (B.gv rR ctx'))) g.move:=(bJ.upd (aj M.rg (dc rfl))).trans (.move λn h=>by exact dK [(av,zn 14)] (av,zn 40) rt h.2);refine bH Ext.refl (q _ g.move (I.xI J rfl (λa=>?_) ⟨λa ha=>?_⟩ qQ ⟨{B with gl:=A.gl},d,E_,rR,ctx',Pt,x,j⟩))
   ·by_cases c:41<=g.R a/\g.R a<=50
    ·refine .inr (.inl ?_);have:g.move.R a=g.R a-20:=if_pos c;exact gP [(zn 41,av),(aX,bT),(av,zk aX 20)] (zs (zn 13),bT) rt c.1 (aa (ao this)) (aa (ao (bM (dK [(zn 41,av)] (zn 20,av) rt c.1))))
    ·exact .inl (if_neg c)
   ·erw[<-I.claim.upd.c a λz=>ha ?_,aj (Cu (by exact zwb z rfl)),<-z]
  ·erw[aD (th e1),(eK D)];subst eK;erw[ay (st _ D),(v hv hs)];subst e2;erw[ZJ,Z5,<-Zc C ?_,<-Zc rfl ?_,ax (ae V N.hg) (h6 _ _ _) (fw hv),<-Zc o ?_,<-Zc rfl ?_];have YG:min done.length 6+(6-done.length)=6:=by rw[fc (gk D)];exact Nat.add_sub_cancel' (gk D)
   erw[jc us (aj ah (aj dP (aj eD (aj la (aj lb (aj YG (dc rfl))))))) gV (aj ah (aj dP (aj eD (aj la (aj lb (aj YG (aU.mpr D)))))))];rewrite[aM];erw[aj hs];rewrite[bR];erw[Ze,<-⟨trivial,ih _ _ ⟨done++[.int (done.length:Int)],by erw[c_ e1];rewrite[aC];rfl,o,C,by erw[aj ah];rfl⟩⟩]
 have P:∀(H:Hp)(g:Gh) h d,Inv nz pl ga ka wa t H g->ja H g 20 A h sn rej cj->jz h sn cj A.tr t->ja H g 40 B d E_ rR ctx'->jz d E_ ctx' B.tr t->bN af w K aH n [.dp G0 [dj (.cst (.bool false))] [],.expr (bD 885 [fJ,(ek 6),(bD 783 [(bw (bw fJ 1) 6),(.bin .FloorDiv bA (ek 5))])]),.dp (.cmp .Gt (.call .len [dQ]) (ek 0)) [.expr (bD 811 [(bw dQ 0),(ek 0),(.bin .FloorDiv bA (ek 6))])] [],.dp G0 [dj (.cst (.bool false))] [],.forR 6 none (ek 6) [.hX aN jW (.sub fJ jW)],dj (.cst (.bool true))] ρ H (dF Q) (cG X):=λH g h d I M p N j=>by
  erw[Zh,DK R I.cells M p N j o C (lv G rfl),Zi,Ze,Zd,Zk,Zq,<-Zr C ?_,Zr rfl,Za,Zq,Za,Zo rfl,Zo rfl,<-Zc C ?_,ax N.hg (h6 _ _ _) rfl,ax N.hu (h8 _) rfl,Za,Zv rfl,<-Zc T ?_,dT (y:=5) rfl (iQ F).big rfl,Zb,iC R (j.hi 6 (dc rfl)) (v9 F 5) (lv G rfl),(u W),Zb,v7 R (dc rfl) N (f:=6) (dc rfl) (lv G rfl),(x)];have J:=λs h1 h2=>bJ.say (H:=H) (g:=g) (A:=B) (y':=.list (hl (hY d 6 u))) (z':=dE (hY d 6 u) B.me (yR B.sa) rR ctx') (s:=s) N.Ff N.rm h2 h1;have O:jz (hY d 6 u) E_ ctx' B.tr t:=⟨rN j.hi ⟨gV,by exact o6 W⟩,j.zx,j.len,j.so,j.c⟩;have l:=M.keep (J (oG 20) (by unfold oG;decide) (by unfold oG;decide));have L:=I.far (J _ (dc rfl) (dc rfl)) rfl (λ_=>.inl rfl) I.claim.upd.upd;generalize upd (upd H B.nu (.list (hl (hY d 6 u)))) B.m (dE (hY d 6 u) B.me (yR B.sa) rR ctx')=H1 at x l L;have l3:(aT (B.tr.map (·.p))).length=B.tr.length:=by rw[bG,aq]
  erw[Zh,Zy rfl,<-ZG r3 ?_,dW x.h3 (by exact lM l3 lB rfl),aj l3,<-j7 (λe=>?_) (λe=>?_)]
  ·have h0:0<B.tr.length:=by exact Qo e
   erw[Zp,Zk,Zq,Za,Zo rfl,<-Zc r3 ?_,ax x.h3 (by exact lM l3 lB rfl) (fw (i:=0) (jN (by erw[aj (cP),aj (bx h0)];rfl))),Zr rfl,Za,Zv rfl,<-Zc T ?_,dT (y:=6) rfl (iQ F).big rfl,Zb,Ae R L (dc rfl) (dc rfl) x l h0 (f:=0) (dc rfl) (v9 F 6) (lv G rfl),(U Y I2 N2 M2),Ze,Zd,<-stC U Y _ _ I2 M2 p N2 O]
  ·erw[Zi,Ze,Zd,<-stC H1 g _ _ L l p x O]
 unfold HV;erw[Zk,Zq,<-Zr o ?_,Zr rfl,Za,Zq,Za,Zo rfl,Zo rfl,<-Zc o ?_,ax M.hg (h6 _ _ _) rfl,ax M.hu (h8 _) rfl,Za,Zv rfl,<-Zc T ?_,dT (y:=2) rfl (iQ F).big rfl,Zb,iC R (p.hi 5 (dc rfl)) (v9 F 2) (lv G rfl),(u W),Zb,v7 R (dc rfl) M (f:=5) (dc rfl) (lv G rfl),(l)];have J:=λs h1 h2=>bJ.say (H:=H) (g:=g) (A:=A) (b:=20) (y':=.list (hl (hY h 5 u))) (z':=dE (hY h 5 u) A.me (yR A.sa) rej cj) (s:=s) M.Ff M.rm h2 h1;have O:jz (hY h 5 u) sn cj A.tr t:=⟨rN p.hi ⟨gV,by exact o6 W⟩,p.zx,p.len,p.so,p.c⟩;have x:=N.keep (J (oG 40) (by unfold oG;decide) (by unfold oG;decide));have L:=I.xI (J _ (dc rfl) (dc rfl)) rfl (λ_=>.inl rfl) I.claim.upd.upd qQ ⟨A,_,sn,rej,cj,Pt,l,O⟩;generalize upd (upd H A.nu (.list (hl (hY h 5 u)))) A.m (dE (hY h 5 u) A.me (yR A.sa) rej cj)=H1 at x l L;have l3:(aT (A.tr.map (·.p))).length=A.tr.length:=by rw[bG,aq]
 erw[Zh,Zy rfl,ZN,Za,Zo rfl,<-Zc o ?_,ax l.hg (h6 _ _ _) rfl,Zb,dW l.h3 (by exact lM l3 lA rfl),aj l3,<-j7 (λe=>?_) (λe=>?_)]
 ·have h0:0<A.tr.length:=by exact Qo e
  erw[Zp,Zk,Zq,Za,Zo rfl,Zo rfl,<-Zc o ?_,ax l.hg (h6 _ _ _) rfl,ax l.h3 (by exact lM l3 lA rfl) (fw (i:=0) (jN (by erw[aj (cP),aj (bx h0)];rfl))),Zr rfl,Za,Zv rfl,<-Zc T ?_,dT (y:=3) rfl (iQ F).big rfl,Zb,Ae R L (b:=20) (dc rfl) (dc rfl) l x h0 (f:=3) (dc rfl) (v9 F 3) (lv G rfl),(U Y I2 M2 N2),Ze,Zd,<-P U Y _ _ I2 M2 O N2 j]
 ·erw[Zi,Ze,Zd,<-P H1 g _ _ L l O x j]
end
theorem i_.app{H:Hp}:∀{ts us:List Tr} {xs ys:List En},i_ H ts xs->i_ H us ys->i_ H (ts++us) (xs++ys)
 |[],_,[],_,_,h=>h
 |_::_,_,_::_,_,a,h=>⟨a.1,i_.app a.2 h⟩
 |[],_,_::_,_,h,_=>h.elim
 |_::_,_,[],_,h,_=>h.elim
section
variable{G:Hp}
structure Ys(H H':Hp)(es:List Addr)(xs:List En)(ts:List Tr):Prop where
 x:Ext H H'
 e:ts.map (·.e)=es
 pr:i_ H' ts xs
 f:∀t∈ts,H t.p=none/\H t.r=none
 np:(ts.map (·.p)).Nodup
 nr:(ts.map (·.r)).Nodup
theorem Gk(C:Cells H g)(M:ja H g 20 A h sn rej cj)(J:A.tr.length<=5)(hm:H m=some (dE h0 me v0 ab3 Mh))(he:H me=some (.list (aT es)))(S:dU H es (A.tr.map λt=>g.en t.e))(O:ρ 0=some (.ref A.gl))(r2:ρ 2=some (.ref m))(q:∀ts N c,Ys H N es (A.tr.map λt=>g.en t.e) ts->N c=none->Q (.ref c) (upd N c (.list (aT (ts.map (·.p)))))):dm af w K aH n (.kg (.lst [(.sub (.attr dC 15) (.loc 1000)),(.call .list [(bw (.sub (bw aN 3) (.loc 1000)) 1)])]) (.call .len [(bw aN 3)])) ρ H Q X:=by
 have h6:(A.gv rej cj).length<=100000:=dc rfl;have l3:(aT (A.tr.map (·.p))).length=A.tr.length:=by rw[bG,aq]
 have l:=S.length;rw[aq] at l;have B:=hm;unfold dE at B;have W:=M.hg;erw[Zai,ZN,Za,Zo rfl,<-Zc O ?_,ax W h6 rfl,Zb,dW M.h3 (lM l3 J rfl),aj l3,<-⟨_,rfl,gV,aw.mpr (dK [(av,zn 5)] (av,zn 1000) rt J),?_⟩];rw[vj];refine mI (λi L j=>∃done ts,done++i=nC A.tr.length/\done.length=ts.length/\L=aT (ts.map (·.p))/\Ys H j (es.take ts.length) ((A.tr.map λt=>g.en t.e).take ts.length) ts) _ []
  ?_ (λL j=>(f9 · λdone ts e1 e2 e3 P=>?_)) λv i L j=>(f9 · λdone ts e1 e2 e3 P G Y=>?_)
 ·exact⟨[],[],rfl,rfl,rfl,⟨Ext.refl,rfl,trivial,(λ_ h=>nomatch h),pa,pa⟩⟩
 ·rw[bb] at e1;have T:ts.length=A.tr.length:=by refine' c_ e2 ?_;refine' aj e1 ?_;unfold nC;rewrite[aq];refine' aj d8 ?_;rfl
  rw[d6 (Vz l T),d6 (by rw[aq];exact fp [(av,aX)] (av,aX) rt (aa (ao T)))] at P;erw[(c hc),aj e3,<-q ts j c P hc]
 ·erw[aD (th e1),(eK d)];subst eK;rw[e2] at d⊢;rcases P with⟨x,e,pr,f,np,nr⟩
  have D:es[ts.length]?=some (es[ts.length]'(by exact zo9 d l)):=bx _;generalize es[ts.length]'(zo9 d l)=ee at D;erw[ay (S.get D),(y k N_)];have V:A.tr[ts.length]?=some (A.tr[ts.length]'d):=bx _;have R:=M.ht _ (fP d);generalize A.tr[ts.length]'d=z at V R;rw[cP,V] at k;have k:g.en z.e=y:=bV k;erw[aD (R.pr C),(pz gz)];rw[k] at pz;have Se:=x _ _ B;erw[eR rfl,Za,Zo rfl,<-Zl r2 ?_,aO Se rfl rfl,ax (x _ _ he) (by rw[bG];exact lM l J rfl) (fw (jN D)),Za,Z4,Za,Zo rfl,Zo rfl,Zo rfl,<-Zc O ?_,ax (x _ _ W) h6 rfl,ax (x _ _ M.h3) (lM l3 J rfl) (fw (jN (by erw[aj (cP),aj V];rfl))),ax (x _ _ pz.p) (dc rfl) rfl,Zb,qc (x _ _ pz.r) (dc rfl),(r hr),Zb,(p hp),aD (bo hp),(U Xj)];have E:Ext j (upd (upd j r (.list y.vs)) p (.list [.ref ee,.ref r])):=Ext.fresh (Ext.fresh Ext.refl hr) U;have zr:=aI x hr;have zp:=aI x U;have o:∀t∈ts,j t.p≠none/\j t.r≠none:=by
   clear Y e1 e2 e3 e f np nr d V D E;intro t ht;generalize (A.tr.map λt=>g.en t.e).take ts.length=us at pr
   induction ts generalizing us with
   |nil=>cases ht
   |cons s ts ih=>
    induction us using lcs with
    |nil=>exact pr.elim
    |cons u us=>
     rcases bE.mp ht with h|h
     ·erw[aj h,aj pr.1.p,aj pr.1.r,<-⟨(λz=>nomatch z),(λz=>nomatch z)⟩]
     ·exact ih h _ pr.2
  refine Y _ _ trivial ⟨done++[.int ts.length],ts++[⟨p,ee,r⟩],by erw[c_ e1];rewrite[aC];erw[aj e2];rfl,by erw[aj ah,aj ah,aj e2];rfl,by erw[aj e3];unfold aT;erw[aj aY,aj aY];rfl,⟨x.trans E,?_,?_,?_,?_,?_⟩⟩
  ·erw[aj aY,aj e,aj ah,aj aW,aj iK,aj D];rfl
  ·erw[aj ah,aj aW,aj iK,aj (cP),aj V];show i_ _ _ (_++[g.en z.e]);erw[aj k,<-i_.app (pr.ext E) ⟨⟨us,E _ _ (x _ _ N_),ae (aJ Xj) us⟩,trivial⟩]
  ·exact λt ht=>by
    rcases cC.mp ht with ht|ht
    ·exact f t ht
    ·erw[aj (aR.mp ht),<-⟨zp,zr⟩]
  ·erw[aj aY,<-iL.mpr ⟨np,fE _ _,λa I b F q=>?_⟩];rw[aR.mp F] at q;erw[ay (cK.mp I),(t ht iP)];subst iP;exact(o t ht).1 (aj q U)
  ·erw[aj aY,<-iL.mpr ⟨nr,fE _ _,λa I b F q=>?_⟩];rw[aR.mp F] at q;erw[ay (cK.mp I),(t ht lj)];subst lj;exact(o t ht).2 (aj q hr)
end
theorem i_.mem{H:Hp}:∀{ts:List Tr} {xs:List En},i_ H ts xs->∀t∈ts,∃x,Pr H t.p t.e t.r x
 |[],_,_,_,h=>nomatch h
 |_::_,[],h,_,_=>h.elim
 |s::ts,x::xs,h,t,ht=>by
  rcases bE.mp ht with q|q
  ·erw[aj q,<-⟨x,h.1⟩]
  ·exact i_.mem h.2 t q
section
variable{G:Hp}
def y3(m me:Addr)(z:Option (Addr×BM)):List (Addr×Nat):=(m,41)::(me,44)::(match z with|none=>[]|some (a,A)=>snE 40 a A)
noncomputable def zV:Option (Addr×BM)->V
 |none=>.none
 |some a=>.ref a.1
def SnZ(H:Hp):Option (Addr×BM)->Option Sn->Prop
 |none,none=>True
 |some a,some s=>Br H a.1 a.2 s
 |_,_=>False
theorem RA(g:H m=some (dE h me v rej cj))(j:H me=some (.list (aT es)))(t:m≠me)(c:A2 H0 H me v sn)(w:∀s,sn=some s->s.ids≠[])(u:OP H0 m me es):
  ∃z,(y3 m me z).Pairwise (λx y=>y.1=x.1->y.2=x.2)/\(∀x∈y3 m me z,H0 x.1=none/\(∃mo,H x.1=some mo/\∀y:En,y.o≠mo)/\40<=x.2)/\v=zV z/\SnZ H z sn:=by
 have m1:H0 m=none/\(∃mo,H m=some mo/\∀y:En,y.o≠mo)/\40<=41:=⟨u.fm,⟨_,g,λy q=>by cases q⟩,by decide⟩;have m2:H0 me=none/\(∃mo,H me=some mo/\∀y:En,y.o≠mo)/\40<=44:=⟨u.RO,⟨_,j,λy q=>by injection q⟩,by decide⟩
 induction c using A2.casesOn with
 |none=>
  refine⟨none,?_,?_,rfl,trivial⟩
  ·exact .cons (aL (λe=>absurd e.symm t) fL) (.cons fL .nil)
  ·exact aL m1 (aL m2 fL)
 | @some a A s f k cn=>
  have d:∀{x y:Addr} {p q:MO},H x=.some p->H y=.some q->p≠q->y=x->False:=λp q n e=>fU p q n e.symm;have i:∀{a:Addr} {r:Nat},H0 a=none->(∃mo,H a=.some mo/\∀y:En,y.o≠mo)->40<=r->H0 (a,r).1=none/\(∃mo,H (a,r).1=.some mo/\∀y:En,y.o≠mo)/\40<=(a,r).2:=λa b c=>⟨a,b,c⟩;refine⟨.some (a,A),?_,?_,rfl,k⟩
  ·refine .cons (aL (λe=>absurd e.symm t) (aL (λe=>(d g k.o (λq=>by cases q) e).elim) (aL (λe=>(d g k.co.c (λq=>by cases q) e).elim) (aL (λe=>(d g k.co.v (λq=>by injection q) e).elim) (aL (λe=>(d g k.co.l (λq=>by injection q) e).elim) (aL (λe=>(d g k.co.o (λq=>by injection q) e).elim) (aL (λe=>(d g k.co.n (λq=>by injection q) e).elim) fL)))))))
    (.cons (aL (λe=>(d j k.o (λq=>by injection q) e).elim) (aL (λe=>(d j k.co.c (λq=>by injection q) e).elim) (aL (λe=>absurd e.symm cn.v) (aL (λe=>absurd e.symm cn.l) (aL (λe=>absurd e.symm cn.o) (aL (λe=>absurd e.symm cn.n) fL)))))) (k.pw (w s rfl) 40))
  ·exact aL m1 (aL m2 (aL (i f.o ⟨_,k.o,λy q=>by cases q⟩ (dc rfl)) (aL (i f.co.c ⟨_,k.co.c,λy q=>by cases q⟩ (dc rfl)) (aL (i f.co.v ⟨_,k.co.v,λy q=>by injection q⟩ (dc rfl)) (aL (i f.co.l ⟨_,k.co.l,λy q=>by injection q⟩ (dc rfl)) (aL (i f.co.o ⟨_,k.co.o,λy q=>by injection q⟩ (dc rfl)) (aL (i f.co.n ⟨_,k.co.n,λy q=>by injection q⟩ (dc rfl)) fL)))))))
def Uw:List S:=.dp (.cmp .NotEq (.call .len [(.attr dC 15)]) (.call .len [(bw aN 3)])) [dj (.cst (.bool false))] []:: .bq 3 (.kg (.lst [(.sub (.attr dC 15) (.loc 1000)),(.call .list [(bw (.sub (bw aN 3) (.loc 1000)) 1)])]) (.call .len [(bw aN 3)])):: .bq 4 (.cst .none):: .dp (.qL (bw aN 4) true) [.bq 4 (.lst [(bw (bw aN 4) 0),(bw (bw aN 4) 1),(.call .list [(bw (bw aN 4) 2)]),(bw (bw aN 4) 3),(bw (bw aN 4) 4)])] []:: .bq 5 (.lst [dC,(.call .list [(bw aN 1)]),(bw aN 2),dQ,fG,(bw aN 5)])::HV
theorem ES(R:Rd af w K)(I:Inv nz pl ga ka wa t H g)(Pt:A.gl=ga)(M:ja H g 20 A h sn rej cj)(p:jz h sn cj A.tr t)(hm:H m=some (dE h me (yR sa) rej cj))(he:H me=some (.list (aT (ts.map (·.e)))))(hc:H c=some (.list (aT (ts.map (·.p)))))(W:∀z∈ts,tZ H g z)(JX:ts.length<=5)(hs:tY H sa sn)(O:g.R m=41)(GJ:g.R me=44)(P:g.R c=43)(L:∀z,sa=some z->lS g.R 40 z)(d:ρ 0=some (.ref A.gl))(U:ρ 1=some (.int (y:Int)))(T:ρ 2=some (.ref m))(E:ρ 3=some (.ref c))(S:ρ 4=some (MN sa))(V:y<2^39)(hn:aB 9 n=true)(q:∀J g',Inv nz pl ga ka wa t J g'->Q (.bool true) J):
  bN af w K aH n (.bq 5 (.lst [dC,(.call .list [(bw aN 1)]),(bw aN 2),dQ,fG,(bw aN 5)])::HV) ρ H (dF Q) (cG X):=by
 have h6:(A.gv rej cj).length<=100000:=dc rfl;erw[Zg,eR rfl,<-Zr T ?_,Za,Z4,Za,Zo rfl,<-Zc d ?_,ax M.hg h6 rfl,Zb,qc M.hu (dc rfl),(b B)];have x:Ext H (upd H b (.list (hl h))):=Ext.fresh Ext.refl B;have j:=I.alloc (n:=42) (mo:=.list (hl h)) B (dc rfl);have s:bJ (λn=>n≠0) H g (upd H b (.list (hl h))) (g.set b 42):=.alloc I.claim B;have Y:(upd H b (.list (hl h))) b=some (.list (hl h)):=us;have F:(g.set b 42).R b=42:=gS;generalize upd H b (.list (hl h))=H1 at x j s Y;generalize g.set b 42=g1 at j s F;erw[Za,Zo rfl,<-Zc d ?_,ax (x _ _ M.hg) h6 rfl,<-Zr E ?_,<-Zr S ?_,Za,Zo rfl,<-Zc d ?_,ax (x _ _ M.hg) h6 rfl,Zb,(gl C)];have D:Ext H1 (upd H1 gl (.list ((CB.mk gl m b c me ts sa).gv rej cj))):=Ext.fresh Ext.refl C;have I2:=j.alloc (n:=40) (mo:=.list ((CB.mk gl m b c me ts sa).gv rej cj)) C (dc rfl);have G:bJ (λn=>n≠0) H1 g1 (upd H1 gl (.list ((CB.mk gl m b c me ts sa).gv rej cj))) (g1.set gl 40):=.alloc j.claim C;have f:=x.trans D;have k:=s.trans G;have o:∀a i,g.R a=i->i≠0->(g1.set gl 40).R a=i:=λa i e z=>(k.r a (aj e z)).trans e;have N:ja (upd H1 gl (.list ((CB.mk gl m b c me ts sa).gv rej cj))) (g1.set gl 40) 40 ⟨gl,m,b,c,me,ts,sa⟩ h sn rej cj:=
  ⟨us,f _ _ hm,D _ _ Y,f _ _ hc,f _ _ he,λz v=>(W z v).keep k (dc rfl) (dc rfl),hs.ext f,gS,o _ _ O (dc rfl),(G.r b (aj F (dc rfl))).trans F,o _ _ P (dc rfl),o _ _ GJ (dc rfl),λz v=>(L z v).keep k (λn l u=>by exact Qm l)⟩
 have M2:=M.keep (k.sub λn h=>by unfold oG at h;exact N4 h);exact Jb R I2 Pt M2 p N ⟨p.hi,p.zx,JX,p.so,p.c⟩ d U E rfl V hn q
theorem Ew(R:Rd af w K)(I:Inv nz pl ga ka wa t H g)(Pt:A.gl=ga)(M:ja H g 20 A h sn rej cj)(p:jz h sn cj A.tr t)(x:Ext H H1)(f:OP H m me es)(hm:H1 m=some (dE h me v rej cj))(W:H1 me=some (.list (aT es)))(hx:dU H1 es (A.tr.map λt=>g.en t.e))(sc:A2 H H1 me v sn)(ne:m≠me)(E:ρ 0=some (.ref A.gl))(r1:ρ 1=some (.int (y:Int)))(r2:ρ 2=some (.ref m))(b:y<2^39)(hn:aB 9 n=true)(q:∀H' g',Inv nz pl ga ka wa t H' g'->Q (.bool true) H'):bN af w K aH n Uw ρ H1 (dF Q) (cG X):=by
 have h6:(A.gv rej cj).length<=100000:=dc rfl;have JX:=p.len;have l3:(aT (A.tr.map (·.p))).length=A.tr.length:=by rw[bG,aq]
 have lx:=hx.length;rw[aq] at lx;have D_:=hm;unfold dE at D_;erw[fh (RA hm W ne sc (λs B=>(p.so s B).2.1) f),(z pw J N Fc)];have I1:=I.ext x;have rz:∀y∈y3 m me z,g.R y.1=0:=λy b=>I.claim.fresh (J y b).1;have I2:=I1.far (.sets _ (λy b h=>h.1 (rz y b)) λy b h=>by have:=(J y b).2.2;exact cH [(zn 40,av),(av,zn 30)] rt this h.2) (CF _) (λa=>by
  rcases vn (y3 m me z) (g:=g) (a:=a) with e|⟨y,b,e⟩
  ·exact .inl e
  ·exact .inr (by erw[aj e];have:=(J y b).2.2;exact dK [(zn 40,av)] (zs (zn 30),av) rt this)) (Claim.sets _ I1.claim λy b=>by
  erw[ay ((J y b).2.1),(mo O _),aj O];exact λz=>nomatch z)
 have k2:bJ (λn=>n≠0/\n<40) H1 g H1 (g.sets (y3 m me z)):=.sets _ (λy b h=>h.1 (rz y b)) λy b h=>by have:=(J y b).2.2;exact cH [(zn 40,av),(zs av,zn 40)] rt this h.2
 have em:∀y∈y3 m me z,(g.sets (y3 m me z)).R y.1=y.2:=AI _ pw;have M1:=M.keep (.ext x);have M2:=M1.keep (k2.sub λn h=>by unfold oG at h;exact⟨λKg=>h.elim (λNR=>cH [(av,zn 0),(zn 1,av)] rt (aa Kg) (aa (ao NR))) (λNR=>NR.elim (λMx=>cH [(av,zn 0),(zn 3,av)] rt (aa Kg) (aa (ao Mx))) (λMx=>cH [(av,zn 0),(zn 20,av)] rt (aa Kg) Mx.1)),h.elim (λKz=>dK [(av,zn 1)] (zs av,zn 40) rt (aa Kz)) (λKz=>Kz.elim (λLN=>dK [(av,zn 3)] (zs av,zn 40) rt (aa LN)) (λLN=>dK [(av,zk (zn 20) 10)] (zs av,zn 40) rt LN.2))⟩);have G:∀a,g.R a=0->(∀y∈y3 m me z,a≠y.1)->(g.sets (y3 m me z)).R a=0:=λa h k=>(Et _ k).trans h;have ets:∀y,(g.sets (y3 m me z)).en y=g.en y:=λy=>by rw[CF]
 generalize g.sets (y3 m me z)=g2 at I2 k2 em M2 G ets;unfold Uw;erw[Zh,ZH,ZN,Za,<-Zl r2 ?_,aO D_ rfl rfl,Zb,dW W (by rw[bG];exact lM lx JX rfl),ZN,Za,Zo rfl,<-Zc E ?_,ax (v:=.ref A.g3) M1.hg h6 rfl,Zb,dW M1.h3 (by exact lM l3 JX rfl),aj l3];rewrite[bG];erw[aj lx,WA,Zi,Ze,Zd,Zg,Gk I1.cells M1 JX hm W hx E r2,(ts H2 c P hc)];rcases P with⟨x2,ee,pr,ff,np,j⟩
 have hlt:ts.length=A.tr.length:=by
  have:=congrArg cF ee;rw[aq] at this;exact aS (gP [(av,aX),(aX,bT)] (av,bT) rt (aa this) (aa lx)) (gP [(av,aX),(bT,av)] (bT,aX) rt (aa (ao this)) (aa (ao lx)))
 have I2':=I2.ext x2;have esn:∀e∈es,∃y:En,H1 e=some y.o:=λe W=>by
  erw[ay (dU.mem hx W),(y _ b),<-⟨y,b⟩]
 have tes:∀s∈ts,s.e∈es:=λs B=>by refine' c_ ee ?_;exact cK.mpr ⟨s,B,rfl⟩
 have xx:=x.trans x2;have gx:∀y∈A.tr.map (λt=>g.en t.e),y.Good:=λy b=>by
  erw[ay (cK.mp b),(s B eK)];subst eK;exact(I.cells.ent _ (.inl (M.ht s B).e)).2.2.2.2
 refine fh (EC ts _ I2' pr gx (λs B=>by
  erw[aD (ff s B),(f1 f2),bf (esn _ (tes s B)),(u hu),<-⟨G _ (I1.claim.fresh f1) λy b e=>?_,G _ (I.claim.fresh (f.fes _ (tes s B))) λy b e=>?_,G _ (I1.claim.fresh f2) λy b e=>?_⟩]
  ·erw[ay ((J y b).2.1),(mo O _)];rw[<-e,f1] at O;injection O
  ·erw[ay ((J y b).2.1),(mo O hq)];rw[<-e,hu] at O;exact hq u (bV O)
  ·erw[ay ((J y b).2.1),(mo O _)];rw[<-e,f2] at O;injection O) np (ee▸f.nd) j) ?_
 intro g3 I3 k3 t3 o3;have I4:=I3.alloc (n:=43) (mo:=.list (aT (ts.map (·.p)))) hc (dc rfl);have k4:bJ (λn=>n≠0) H2 g3 (upd H2 c (.list (aT (ts.map (·.p))))) (g3.set c 43):=.alloc I3.claim hc;have x4:Ext H2 (upd H2 c (.list (aT (ts.map (·.p))))):=Ext.fresh Ext.refl hc;have Y:(upd H2 c (.list (aT (ts.map (·.p))))) c=some (.list (aT (ts.map (·.p)))):=us;have T:(g3.set c 43).R c=43:=gS;have Rf:=((bJ.ext x2).trans k3).trans k4;have F:=x2.trans x4;have t4:∀s∈ts,tZ (upd H2 c (.list (aT (ts.map (·.p))))) (g3.set c 43) s:=λs B=>(t3 s B).keep k4 (dc rfl) (dc rfl);have C:=M2.keep (Rf.sub λn h=>by unfold oG at h;exact N4 h);generalize upd H2 c (.list (aT (ts.map (·.p))))=H4 at I4 Y Rf F t4 C;generalize g3.set c 43=g4 at I4 T Rf t4 C;have L:∀y∈y3 m me z,g4.R y.1=y.2:=λy b=>(Rf.r _ (by erw[aj (em y b)];have:=(J y b).2.2;exact Qm this)).trans (em y b);have rm:=L (m,41) kf;have GJ:=L (me,44) (fV kf);have TS:=C.hs;erw[Z1 rfl,Zh,ZS,Zo rfl,<-Zc E ?_,ax (v:=MN A.sa) C.hg h6 rfl];cases hA:A.sa with
 |none=>
  rw[hA] at TS
  induction sn using tU with
  |some _=>exact TS.elim
  |none=>
  induction z using tU with
  |some _=>exact Fc.elim
  |none=>
  have N:v=.none:=N;replace N:=N.symm;subst N;erw[lg rfl,Zi,Ze,Zd,<-ES R I4 (sa:=none) Pt C p (F _ _ hm) (by erw[aj ee,<-F _ _ W]) Y t4 (by exact lM hlt JX rfl) trivial rm GJ T (λ_ h=>nomatch h) E r1 r2 rfl rfl b hn q]
 |some za=>
  rw[hA] at TS;cases xd:sn with
  |none=>rw[xd] at TS;exact TS.elim
  |some s=>
  rw[xd] at TS Fc
  induction z using tU with
  |none=>exact Fc.elim
  |some aA=>
  have hB:nT H4 za s:=TS;rcases aA with⟨a,D⟩
  have hk:Br H1 a D s:=Fc;have N:v=.ref a:=N;subst N;have h5:(s.vs za.s2).length<=100000:=dc rfl;have nU:=(p.so s xd).1.ids.len;erw[lg rfl,Zp,Zg,eR rfl,Za,Zo rfl,Zo rfl,<-Zc E ?_,ax (v:=MN A.sa) C.hg h6 rfl,aj hA,ax (v:=.int s.i) hB.sl h5 rfl,Za,Zo rfl,Zo rfl,<-Zc E ?_,ax (v:=MN A.sa) C.hg h6 rfl,aj hA,ax (v:=.int s.t) hB.sl h5 rfl,Za,Z4,Za,Zo rfl,Zo rfl,<-Zc E ?_,ax (v:=MN A.sa) C.hg h6 rfl,aj hA,ax (v:=.ref za.s2) hB.sl h5 rfl,Zb,qc hB.s2 (by rw[As];exact dM nU rfl),(s2 DM)];have x5:Ext H4 (upd H4 s2 (.list (iv s.ids))):=Ext.fresh Ext.refl DM;have I5:=I4.alloc (n:=46) (mo:=.list (iv s.ids)) DM (dc rfl);have k5:bJ (λn=>n≠0) H4 g4 (upd H4 s2 (.list (iv s.ids))) (g4.set s2 46):=.alloc I4.claim DM;have h25:(upd H4 s2 (.list (iv s.ids))) s2=some (.list (iv s.ids)):=us;have U:(g4.set s2 46).R s2=46:=gS;generalize upd H4 s2 (.list (iv s.ids))=H5 at x5 I5 k5 h25;generalize g4.set s2 46=g5 at I5 k5 U;erw[Za,Zo rfl,Zo rfl,<-Zc E ?_,ax (v:=MN A.sa) (x5 _ _ C.hg) h6 rfl,aj hA,ax (v:=.bool s.u) (x5 _ _ hB.sl) h5 rfl,Za,Zo rfl,Zo rfl,<-Zc E ?_,ax (v:=MN A.sa) (x5 _ _ C.hg) h6 rfl,aj hA,ax (v:=.bytes s.d) (x5 _ _ hB.sl) h5 rfl,Zb,(sl vq)];have x6:Ext H5 (upd H5 sl (.list (s.vs s2))):=Ext.fresh Ext.refl vq;have I6:=I5.alloc (n:=45) (mo:=.list (s.vs s2)) vq (dc rfl);have k6:bJ (λn=>n≠0) H5 g5 (upd H5 sl (.list (s.vs s2))) (g5.set sl 45):=.alloc I5.claim vq;have x46:=x5.trans x6;have S:=F.trans x46;have V:=k5.trans k6;have j:∀a i,g4.R a=i->i≠0->(g5.set sl 45).R a=i:=λa i e z=>(V.r a (by erw[aj e,<-z])).trans e;have B6:nT (upd H5 sl (.list (s.vs s2))) ⟨sl,s2,a,D⟩ s:=⟨us,x6 _ _ h25,hk.ext S⟩;erw[Ze,Zd,<-ES R I6 (sa:=some ⟨sl,s2,a,D⟩) Pt (C.keep (V.sub λn h=>by unfold oG at h;exact N4 h)) p (S _ _ hm) (by erw[aj ee,<-S _ _ W]) (x46 _ _ Y) (λy b=>(t4 y b).keep V (dc rfl) (dc rfl)) (by exact lM hlt JX rfl) (by erw[aj xd,<-B6]) (j _ _ rm (dc rfl)) (j _ _ GJ (dc rfl)) (j _ _ T (dc rfl)) (λy b=>?_) E r1 r2 rfl rfl b hn q];injection b with b;subst b
  exact⟨gS,(k6.r s2 (by erw[aj U];decide)).trans U,j _ _ (L (a,47) (fV (fV kf))) (dc rfl),j _ _ (L (D.c,48) (fV (fV (fV kf)))) (dc rfl),j _ _ (L (D.v,49) (fV (fV (fV (fV kf))))) (dc rfl),j _ _ (L (D.l,50) (fV (fV (fV (fV (fV kf)))))) (dc rfl),j _ _ (L (D.o,50) (fV (fV (fV (fV (fV (fV kf))))))) (dc rfl),j _ _ (L (D.n,50) (fV (fV (fV (fV (fV (fV (fV kf)))))))) (dc rfl)⟩
theorem PI(R:Rd af w K)(I:Inv nz pl ga ka wa t H g)(B:y<2^39)(a:aB 10 n=true)(q:∀F J,Inv nz pl ga ka wa t F J->Q (.bool true) F):aZ af w K n 982 [.ref ga,.int (y:Int)] H Q X:=by
 erw[R.rK.to rfl a,(n a),iS I.msg,(A h S r N P M p)];subst P;have h6:(A.gv r N).length<=100000:=dc rfl;have V:=M.mb I.cells;have o:=ja.big (C:=I.cells) M p;have D:=M.hm;have u:(A.tr.map λt=>g.en t.e).length<=10:=by rw[aq];have:=p.len;exact dM this rfl
 have c:bN af w K aH n (.bq 2 (.bp (bw aN 0) 10 [])::[]) (sC ([.ref A.gl,.int y]++[])) H (ic af w K n Uw (dF Q) (cG X)) (cG X):=by
  erw[ax M.hg h6 rfl,bC D rfl,bt D rfl,D9 R M.hm M.he V.BL.OU V.sn.Pf u (λs k=>(p.so s k).1.ids) (lv a rfl),(O m G L v x f d b l i j),<-Ew R I rfl M p x f d b l i j rfl rfl rfl B (lv a rfl) q]
 erw[Zh,ZR,Zn,Zy rfl,Zs rfl rfl,dI rfl,<-cq (λe=>?_) (λe=>?_)]
 ·erw[Zp,Zn,Zab rfl,<-yM R V u (lv a rfl) (λE=>?_) (λE=>?_)]
  ·erw[Zx,Zp,ZD,Zp,Zg,Zq,Za,Zq,Za,Zf rfl rfl,ax M.hg h6 rfl,<-fW R M.hm M.he V.BL.OU V.sn.Pf o.big (lv a rfl) (λ_=>?_) (λz=>absurd o.Hx z),<-ow R o.big o.Hx o.zx (λs k=>Sn.gI (o.so s k)) (aF (zU o) (dc rfl)) (lv a rfl) (λ_ O m G L v x f d b l i j=>?_) (λz=>absurd E z),<-Ew R I rfl M p x f d b l i j rfl rfl rfl B (lv a rfl) q]
  ·erw[Zx,Z2,Zi,<-c]
 ·erw[Z2,Zi,<-c]
end
section
variable{G:Hp}
theorem Pd(R:Rd af w K)(I:Inv nz pl ga ka wa t H g)(P:gF H g pl ts)(i:j<ts.length)(o:t<=20)(m:y<2^38)(b:aB 11 n=true)(q:∀c f,Inv nz pl ga ka wa (t+1) c f->Q (.bool true) c):
  aZ af w K n 989 [.int (act:Int),.ref pl,.int (j:Int),.ref ga,.ref ka,.ref wa,.int (y:Int)] H Q X:=by
 erw[R.Km.to rfl b,(n b)];have a:y<2^39:=b_ m (dc rfl);erw[fh (og P i),(z v _ s u)];have r:(aT (ts.map (·.p))).length<=100000:=by rw[bG,aq];have:=P.len;exact dM this rfl
 have d:∀c f,Inv nz pl ga ka wa t c f->Ac Q (.bool true) c:=λc f k=>bH Ext.refl (q _ _ k.up);have l:∀c f,Inv nz pl ga ka wa (t+1) c f->Ac Q (.bool true) c:=λc f k=>bH Ext.refl (q _ _ k);erw[Zh,Zj rfl rfl,<-cq (λe=>?_) (λe=>?_)]
 ·erw[Zp,Zt,Zaj rfl rfl rfl,<-UI R I P i a (lv b rfl) (d _ _ I)]
 erw[Zi,Ze,Zd,Zh,Zj rfl rfl,<-cq (λe=>?_) (λe=>?_)]
 ·erw[Zp,Zt,Zaj rfl rfl rfl,<-Bl R I P i a (lv b rfl) d]
 erw[Zi,Ze,Zd,Zh,Zj rfl rfl,<-cq (λe=>?_) (λe=>?_)]
 ·erw[Zp,Zt,Zaj rfl rfl rfl,<-Jn R I P i a (lv b rfl) d]
 erw[Zi,Ze,Zd,Zh,Zj rfl rfl,<-cq (λe=>?_) (λe=>?_)]
 ·erw[Zp,Zt,ZU rfl rfl,<-D5 R I a (lv b rfl) d]
 erw[Zi,Ze,Zd,Zh,Zj rfl rfl,<-cq (λe=>?_) (λe=>?_)]
 ·erw[Zp,Zt,Zq,Zr rfl,Za,Zf rfl rfl,ax P.h r (fw s),ZF rfl,<-PS R I u a (lv b rfl) d]
 erw[Zi,Ze,Zd,Zh,Zj rfl rfl,<-cq (λe=>?_) (λe=>?_)]
 ·erw[Zp,Zt,ZU rfl rfl,<-Me R I o a (lv b rfl) l]
 erw[Zi,Ze,Zd,Zh,Zj rfl rfl,<-cq (λe=>?_) (λe=>?_)]
 ·erw[Zp,Zt,ZU rfl rfl,<-Fq R I a (lv b rfl) d]
 erw[Zi,Ze,Zd,Zh,Zj rfl rfl,<-cq (λe=>?_) (λe=>?_)]
 ·erw[Zp,Zt,Zq,Zaf rfl rfl rfl rfl,<-PA R I P o m (lv b rfl) l]
 erw[Zi,Ze,Zd,Zt,ZU rfl rfl,<-PI R I a (lv b rfl) d]
end
variable{hd:Nat}
variable{dZ:Nat}
structure LR(ρ:Loc)(nz:Nz)(pl ga ka wa:Addr)(hd dZ:Nat):Prop where
 r1:ρ 1=some (.ref nz.1)
 r2:ρ 2=some (.int (hd:Int))
 r3:ρ 3=some (.ref pl)
 r9:ρ 9=some (.ref ga)
 HL:ρ 11=some (.ref ka)
 r12:ρ 12=some (.int (dZ:Int))
 T6:ρ 13=some (.ref wa)
theorem LR.up(x:LR ρ nz pl ga ka wa hd dZ)(h:i∉[1,2,3,9,11,12,13]):LR (upd ρ i v) nz pl ga ka wa hd dZ:=by
 have k:∀j,j∈[1,2,3,9,11,12,13]->(upd ρ i v) j=ρ j:=λj a=>dr _ _ λe=>h (e▸a);exact⟨(k _ (dc rfl)).trans x.r1,(k _ (dc rfl)).trans x.r2,(k _ (dc rfl)).trans x.r3,(k _ (dc rfl)).trans x.r9,(k _ (dc rfl)).trans x.HL,(k _ (dc rfl)).trans x.r12,(k _ (dc rfl)).trans x.T6⟩
section
variable{G:Hp}
theorem CE(R:Rd af w K)(I:Inv nz pl ga ka wa t H g)(h:tZ H g z){f:Nat}(d:f<=2)(b:rG v)(c:aB 0 n=true)(q:∀x',Inv nz pl ga ka wa t (upd (upd H (g.mt z.e) (.list x'.vs)) z.e x'.o) (g.put z.e x')->Q .none (upd (upd H (g.mt z.e) (.list x'.vs)) z.e x'.o)):aZ af w K n 804 [.ref z.p,.int (f:Int),.int v] H Q X:=by
 erw[aD (h.pr I.cells),(a i)];rw[h.r] at a;exact mX R a d c (q _ (I.put h.e (i.d7 f b)))
theorem oy(R:Rd af w K)(C:Cells H g)(h:tZ H g z)(b:aB 3 n=true)(q:Q (.bool true) H):aZ af w K n 818 [.ref z.p] H Q X:=by
 erw[aD (h.pr C),(a c),<-mM R a c b q]
def Sr:List S:=[.forR 4 none (.call .len [dQ]) [.expr (bD 804 [(.sub dQ fG),(ek 2),(bD 750 [(.bin .Add (.bin .Add dC (ek 2)) (.bin .Mult (ek 3) fG))])]),.dp (.not (bD 818 [(.sub dQ fG)])) [dj (.cst (.bool false))] []],dj (bD 837 [(.comp (bw (.loc 1000) 0) dQ none),(.comp (bw (.loc 1000) 1) dQ none),(.bin .FloorDiv dC (ek 5))])]
def OL:List S:=.q9 17 (bw xe 3) [.dp (.cmp .NotEq (bw (bw (.loc 17) 1) 2) (ek 2)) [.expr (bD 804 [(.loc 17),(ek 2),(ek 0)])] []]:: .expr (bD 885 [xe,(ek 6),(bD 783 [(bw (bw xe 1) 6),dC])]):: .expr (bD 899 [Bs,(ek 2),(bD 783 [(bw (bw Bs 1) 2),dC])]):: .dp (.or [(.not (bD 878 [xe])),(.not (bD 913 [Bs])),(.not (bD 972 [O8,dC]))]) [dj (.cst (.bool false))] []::Sr
def UW:List S:=.forR 4 none (.call .len [dQ]) [.expr (bD 811 [(.sub dQ fG),(ek 0),(.bin .Add dC (.bin .Mult (ek 3) fG))]),.dp (.not (bD 818 [(.sub dQ fG)])) [dj (.cst (.bool false))] [],.expr (bD 804 [(.sub dQ fG),(ek 1),(.bin .Add I9 fG)]),.dp (.not (bD 832 [(.sub dQ fG)])) [dj (.cst (.bool false))] []]::OL
def Ss:List S:=.forR 14 none (.bin .Add (ek 3) (.call .min [(ek 5),(.bin .FloorDiv (.call .len [bA]) (ek 4))])) [.bq 5 (bD 743 [bA,(.bin .Add (ek 8) (.bin .Mult (ek 2) (.loc 14)))]),.bq 15 (bD 743 [bA,(.bin .Add (ek 9) (.bin .Mult (ek 2) (.loc 14)))]),.bq 16 (.bin .Mod fJ (.call .len [dQ])),.expr (bD 811 [(.sub dQ (.loc 16)),(.bin .Mod (.bin .FloorDiv fJ (ek 5)) (ek 4)),(.bin .FloorDiv fJ (ek 20))]),.dp (.not (bD 818 [(.sub dQ (.loc 16))])) [dj (.cst (.bool false))] [],.dp (.not (bD 989 [(.bin .Mod (.loc 15) (ek 9)),dQ,(.loc 16),xe,Bs,O8,(.bin .FloorDiv (.loc 15) (ek 9))])) [dj (.cst (.bool false))] []]::UW
theorem abE(R:Rd af w K)(I:Inv nz pl ga ka wa t H g)(L:LR ρ nz pl ga ka wa hd dZ)(J:hd<2^30)(D:aB 11 n=true)(q:∀u,Q (.bool true) u):bN af w K aH n Sr ρ H (dF Q) (cG X):=by
 erw[bf I.y6,(ts P)];have j:=P.len;have lQ:(aT (ts.map (·.p))).length<=100000:=by rw[bG,aq];exact dM j rfl
 have C:=L.r2;have f:=L.r3;unfold Sr;erw[oH,<-ZG f ?_,dW P.h lQ];rw[bG,aq];erw[ie,<-uA (dM j rfl) (λb ρ u=>∃done E,done++b=nC ts.length/\Inv nz pl ga ka wa t u E/\gF u E pl ts/\LR ρ nz pl ga ka wa hd dZ) ?_ (λρ F=>(f9 · λdone g2 e1 I2 l L2=>?_)) λv b ρ u ih=>(f9 · λdone E e1 Y T U=>?_)]
 ·exact⟨[],g,rfl,I,P,L⟩
 ·have f:=L2.r3;have C:=L2.r2;have BL:=GC I2.cells l.tr;have O:∀x∈ts.map (λt=>g2.en t.e),x.Good:=λx hx=>by
   erw[ay (cK.mp hx),(s hs eK)];subst eK;exact(I2.cells.ent _ (.inl (l.tr s hs).e)).2.2.2.2
  erw[Zt,Zq,Za,ZK,<-Zc f ?_,<-tA (λz=>.ref z.e) l.h (dM j rfl) (λz k G' N=>?_) λc hc=>?_]
  ·erw[Zf rfl rfl,<-ax (l.tr z k).h (dc rfl) rfl N]
  have ee:ts.map (λz=>V.ref z.e)=aT (ts.map (·.e)):=by unfold aT;refine' aj eu ?_;rfl
  erw[aj ee];have A:Ext F (upd F c (.list (aT (ts.map (·.e))))):=Ext.fresh Ext.refl hc;have y:(upd F c (.list (aT (ts.map (·.e))))) c=some (.list (aT (ts.map (·.e)))):=us;generalize upd F c (.list (aT (ts.map (·.e))))=H3 at A y;erw[Za,ZK,<-Zc f ?_,<-tA (λz=>.ref z.r) (A _ _ l.h) (dM j rfl) (λz k G' N=>?_) λd M=>?_]
  ·erw[Zf rfl rfl,<-ax (A _ _ (l.tr z k).h) (dc rfl) rfl N]
  have er:ts.map (λz=>V.ref z.r)=aT (ts.map (·.r)):=by unfold aT;refine' aj eu ?_;rfl
  erw[aj er];have G:Ext H3 (upd H3 d (.list (aT (ts.map (·.r))))):=Ext.fresh Ext.refl M;have J2:(upd H3 d (.list (aT (ts.map (·.r))))) d=some (.list (aT (ts.map (·.r)))):=us;generalize upd H3 d (.list (aT (ts.map (·.r))))=H4 at G J2;erw[Za,Zv rfl,<-Zc C ?_,dT rfl (iQ (b_ J (dc rfl))).big rfl,Zb];have Yk:=BL.ext (A.trans G);erw[Em R (G _ _ y) J2 Yk.OU Yk.rows O (by rw[aq];exact dM j rfl) (iQ (v9 (b_ J (dc rfl)) 5)) (lv D rfl),<-bH Ext.refl (q _)]
 ·erw[aD (th e1),(iP i)];subst iP;erw[fh (og T i),(z Qn _ k B)];have f:=U.r3;have C:=U.r2;have XJ:=lQ;erw[Zk,Zq,Za,Zo rfl,<-Zc f ?_,ax T.h XJ (fw k),Zr rfl,Za,Zq,Za,ZC,Zv rfl,<-Zc C ?_,Zw,Zs rfl rfl,<-⟨dv (dc rfl),dv (by rw[cT];exact a_ i (aF j (dc rfl))),?_⟩,Zw,Zb,aj (show hd+2+3*done.length=(hd+2+3*done.length:Nat) by exact rfl),jf R (b_ (m:=2^31) (a_ (DC (J3 J 2) (aP 3 (gk (a_ i j)))) (dc rfl)) (dc rfl)) (lv D rfl),(v hv),Zb,CE R Y B (dc rfl) ⟨gV,o6 hv⟩ (lv D rfl),(a W)];have S:=T.put (x:=a) (y':=.list a.vs) (z':=a.o) Y.cells B.e;have z3:=B.put (x:=a) (y':=.list a.vs) (z':=a.o) Y.cells B.e;generalize upd (upd u (E.mt z.e) (.list a.vs)) z.e a.o=H3 at W S z3;erw[Zh,ZP,Zaa,Za,Zo rfl,<-Zc f ?_,ax S.h XJ (fw k),Zb,oy R W.cells z3 (lv D rfl),Zx,Zi,Ze,Zd,Ze,<-⟨trivial,ih _ _ ⟨done++[.int done.length],_,by erw[c_ e1];rewrite[aC];rfl,W,S,U.up (dc rfl)⟩⟩]
end
section
variable{G:Hp}
theorem WW(R:Rd af w K)(I:Inv nz pl ga ka wa t H g)(L:LR ρ nz pl ga ka wa hd dZ)(G:hd<2^30)(ht:t<=20)(a:aB 11 n=true)(q:∀H',Q (.bool true) H'):bN af w K aH n (OL.drop 1) ρ H (dF Q) (cG X):=by
 erw[iS I.msg,(A h T d O eK M p)];subst eK;have h6:∀r c,(A.gv r c).length<=100000:=λr c=>by show 6<=100000;decide
 have h8:(hl h).length<=100000:=dc rfl;have D:hd<2^39:=b_ G (dc rfl);have l:=L.r2;have j:=L.r9;have F:=L.HL;have T6:=L.T6;erw[Zk,Zq,<-Zr j ?_,Zr rfl,Za,Zq,Za,Zo rfl,Zo rfl,<-Zc j ?_,ax M.hg (h6 _ _) rfl,ax M.hu h8 rfl,<-ZF l ?_,iC R (p.hi 6 (dc rfl)) D (lv a rfl),(v hv),Zb,v7 R (dc rfl) M (dc rfl) (lv a rfl),(P)];have i:=I.xI (bJ.say M.Ff M.rm (dc rfl) (dc rfl)) rfl (λ_=>.inl rfl) I.claim.upd.upd qQ ⟨A,_,T,d,O,rfl,P,⟨rN p.hi ⟨gV,o6 hv⟩,(by unfold hY;erw[aj (if_neg (dc rfl)),<-p.zx]),p.len,p.so,p.c⟩⟩;generalize (upd (upd H A.nu (.list (hl (hY h 6 ↑v)))) A.m (dE (hY h 6 ↑v) A.me (yR A.sa) d O))=H1 at i;clear P M p I;erw[dg i.cmd,(B c iP M J)];subst iP;have h2:([V.ref B.cm,.ref B.kr]).length<=100000:=dc rfl;have y:c.vs.length<=100000:=dc rfl;erw[Zk,Zq,<-Zr F ?_,Zr rfl,Za,Zq,Za,Zo rfl,Zo rfl,<-Zc F ?_,ax M.kb.k h2 rfl,ax M.kb.r y rfl,<-ZF l ?_,iC R (J.get (f:=2) (dc rfl)).1 D (lv a rfl),(u hu),Zb,wd R M (dc rfl) (lv a rfl),(E)];have e:=J.d7 (f:=2) ⟨gV,o6 hu⟩ (λz=>absurd z (dc rfl));have b:=i.Ft ((bJ.upd (aj M.rr (dc rfl))).trans (bJ.upd (aj M.rc (dc rfl)))) rfl (λ_=>.inl rfl) i.claim.upd.upd ⟨B,_,rfl,E,e⟩;generalize (upd (upd H1 B.kr (.list (c.d7 2 ↑u).vs)) B.cm (c.d7 2 ↑u).o)=H2 at b E;erw[iS b.msg,(A' h' E_ rR N ea S U),iD b.wait,(C Y es lj W pw)];subst lj;have x:=S.mb b.cells;have s:=ja.big (C:=b.cells) S U;have:=pw.len;erw[Zh,ZT,Zn,ZP,<-Zab j ?_,c_ ea,sN R x s (lv a rfl),Zx,ZM,Zn,ZP,<-Zab F ?_,EK R E.kb e (lv a rfl),Zx,ZM,Zn,ZP,aah T6 l,xJ R b.cells W (YD this ht rfl) (iQ D) (lv a rfl),Zx,ZM,ZD,Zi,Ze,Zd,<-abE R b L G a q]
theorem aaV(R:Rd af w K)(I:Inv nz pl ga ka wa t H g)(L:LR ρ nz pl ga ka wa hd dZ)(P:hd<2^30)(O:t<=20)(B:aB 11 n=true)(q:∀f,Q (.bool true) f):bN af w K aH n OL ρ H (dF Q) (cG X):=by
 erw[iS I.msg,(A h F l S J M p)];subst J;have h6:∀r c,(A.gv r c).length<=100000:=λr c=>by show 6<=100000;decide
 have G:=L.r9;have l5:=p.len;unfold OL;erw[Z_,Zo rfl,<-Zc G ?_,ax M.hg (h6 _ _) rfl,<-Gd M.h3 (by rw[bG,aq];exact dM l5 rfl) (λa ρ f=>∃(t2:List Tr)(i:Gh),a=aT (t2.map (·.p))/\(∀z∈t2,z∈A.tr)/\Inv nz pl A.gl ka wa t f i/\ja f i 20 A h F l S/\LR ρ nz pl A.gl ka wa hd dZ) ⟨A.tr,g,rfl,λ_ h=>h,I,M,L⟩ (λρ Y=>(iB · λt2 W e1 _ b d j=>WW R b j P O B q)) λv a ρ f u=>(iB · λt2 i e1 s2 b d j=>?_)]
 match t2,e1 with
 |z::t3,e1=>
  erw[aD (List.cons.inj e1),(E D)];subst E;subst D;have m:=d.ht z (s2 z kf);have s3:∀y∈t3,y∈A.tr:=λy N=>s2 y (fV N);erw[aD (m.pr b.cells),(s U)];have h2:([V.ref z.e,.ref z.r]).length<=100000:=dc rfl;erw[Zh,Zy rfl,Zo rfl,Zf rfl rfl,ax s.p h2 rfl,ax s.r (dc rfl) rfl,<-wF (λe=>?_) (λe=>?_)]
  ·erw[Zi,Ze,Zd,Ze,<-⟨d.h3,u _ _ ⟨t3,i,rfl,s3,b,d,j.up (dc rfl)⟩⟩]
  ·erw[Zp,Zk,Zaj rfl rfl rfl,CE R b m (dc rfl) ⟨by decide,by decide⟩ (lv B rfl),(k T)];have C:=d.put (x:=k) (y':=.list k.vs) (z':=k.o) b.cells m.e (dc rfl);erw[Ze,Zd,Ze,<-⟨C.h3,u _ _ ⟨t3,_,rfl,s3,T,C,j.up (dc rfl)⟩⟩]
end
variable{a0:Addr}
section
variable{G:Hp}
theorem aam(R:Rd af w K)(I:Inv nz pl ga ka wa t H g)(L:LR ρ nz pl ga ka wa hd dZ)(N:hd<2^30)(V:dZ<2^57)(U:t<=20)(s:aB 11 n=true)(q:∀j,Q (.bool true) j):bN af w K aH n UW ρ H (dF Q) (cG X):=by
 erw[bf I.y6,(ts P)];have k:=P.len;have l:(aT (ts.map (·.p))).length<=100000:=by rw[bG,aq];exact dM k rfl
 have f:=L.r3;unfold UW;erw[oH,<-ZG f ?_,dW P.h l];rw[bG,aq];erw[ie,<-uA (dM k rfl) (λr ρ j=>∃done u,done++r=nC ts.length/\Inv nz pl ga ka wa t j u/\gF j u pl ts/\LR ρ nz pl ga ka wa hd dZ) ?_ (λρ H2=>(f9 · λdone g2 e1 I2 P2 L2=>aaV R I2 L2 N U s q)) λv r ρ j T=>(f9 · λdone u e1 M J D=>?_)]
 ·exact⟨[],g,rfl,I,P,L⟩
 ·erw[aD (th e1),(Y c)];subst Y;erw[fh (og J c),(z Qn _ B A)];have f:=D.r3;have O:=D.r2;have G:=D.r12;have Vg:=dv (by rw[cT];exact a_ c (aF k (dc rfl)));erw[Zk,Zq,Za,Zo rfl,<-Zc f ?_,ax J.h l (fw B),Zr rfl,Za,<-ZI O ?_,Zs rfl rfl,<-⟨dv (dc rfl),Vg,?_⟩,Zw,Zb,aj (show hd+3*done.length=(hd+3*done.length:Nat) by exact rfl),pn R M A (dc rfl) (b_ (m:=2^31) (a_ (DC N (aP 3 (gk (a_ c k)))) (dc rfl)) (dc rfl)) (lv s rfl),(b i)];have y:=J.put (x:=b) (y':=.list b.vs) (z':=b.o) M.cells A.e;have d:=A.put (x:=b) (y':=.list b.vs) (z':=b.o) M.cells A.e;generalize upd (upd j (u.mt z.e) (.list b.vs)) z.e b.o=H3 at i y d;generalize u.put z.e b=g3 at i y d;erw[Zh,ZP,Zaa,Za,Zo rfl,<-Zc f ?_,ax y.h l (fw B),Zb,oy R i.cells d (lv s rfl),Zx,Zi,Ze,Zd,Zk,Zq,Za,Zo rfl,<-Zc f ?_,ax y.h l (fw B),Zr rfl,Za,Zv rfl,<-Zc G ?_,Zw,Zb,CE R i d (dc rfl) ⟨XQ,aw.mpr (gP [(zs av,zn 144115188075855872),(zs aX,bT),(bT,zn 5)] (zp av aX,zn 18446744073709551615) rt V c k)⟩ (lv s rfl),(a E)];have C:=y.put (x:=a) (y':=.list a.vs) (z':=a.o) i.cells d.e;have F:=d.put (x:=a) (y':=.list a.vs) (z':=a.o) i.cells d.e;generalize upd (upd H3 (g3.mt z.e) (.list a.vs)) z.e a.o=H4 at E C F;generalize g3.put z.e a=g4 at E C F;erw[aD (F.pr E.cells),(S W),Zh,ZP,Zaa,Za,Zo rfl,<-Zc f ?_,ax C.h l (fw B),Zb,ot R S W (lv s rfl),Zx,Zi,Ze,Zd,Ze,<-⟨trivial,T _ _ ⟨done++[.int done.length],_,by erw[c_ e1];rewrite[aC];rfl,E,C,D.up (dc rfl)⟩⟩]
theorem aa1(R:Rd af w K)(I:Inv (a0,l.map λx:Nat=>V.int (x:Int)) pl ga ka wa 0 H g)(l0:l≠[])(t:l.length<=24)(J:∀x∈l,x<1000000)(L:LR ρ (a0,l.map λx:Nat=>V.int (x:Int)) pl ga ka wa hd dZ)(hh:hd<2^30)(hb:dZ<2^57)(b:aB 11 n=true)(q:∀k,Q (.bool true) k):bN af w K aH n Ss ρ H (dF Q) (cG X):=by
 have s:=L.r1;have N:(l.map λx:Nat=>V.int (x:Int)).length=l.length:=aq _;unfold Ss;erw[oH,ZI rfl,Zaq,Zr rfl,Za,Zv rfl,<-ZG s ?_,dW I.num.h (by exact lM N t rfl),aj N,dT (y:=4) rfl (Y.big (aK t (dc rfl))) rfl,Zb,Zan,Zw,ie,aj (mn5),<-uA (aF (cV (uc 5 _) 3) (dc rfl)) (λr ρ k=>∃done A,done++r=nC (3+min 5 (l.length / 4))/\Inv (a0,l.map λx:Nat=>V.int (x:Int)) pl ga ka wa done.length k A/\LR ρ (a0,l.map λx:Nat=>V.int (x:Int)) pl ga ka wa hd dZ) ?_ (λρ H2=>(dg · λdone g2 e1 I2 L2=>?_)) λv r ρ k ih=>(dg · λdone A e1 d c=>?_)]
 ·exact⟨[],g,rfl,I,L⟩
 ·have:done.length=(nC (3+min 5 (l.length / 4))).length:=by refine' c_ e1 ?_;rw[bb]
  have e:(nC (3+min 5 (l.length / 4))).length=3+min 5 (l.length / 4):=by unfold nC;simp
  exact aam R I2 L2 hh hb (aF (aa (this.trans e)) (aF mn8 (dc rfl))) b q
 ·erw[aD (th e1),(iP j)];subst iP;erw[bf d.y6,(ts P)];have W:=P.len;have i:=nR.mpr P.ne;have F:(aT (ts.map (·.p))).length<=100000:=by rw[bG,aq];exact dM W rfl
  have s:=c.r1;have m:=c.r3;have U:=c.r9;have HL:=c.HL;have T6:=c.T6;have h8:=dh (a_ j mn8);have S:=dv (by rw[cT];exact a_ j (aF (mn8:_<=8) (dc rfl)));erw[Zg,Zq,<-Zr s ?_,Za,ZI rfl,Zs rfl rfl,<-⟨dv (dc rfl),S,?_⟩,Zw,Zb,aj (show(8:Int)+2*(done.length:Int)=((8+2*done.length:Nat):Int) by exact rfl),tw R d.num.h l0 (by exact dM t rfl) J (aF (cV (aP 2 h8) 8) (dc rfl)) (lv b rfl),(y hy),Zg,Zq,<-Zr s ?_,Za,ZI rfl,Zs rfl rfl,<-⟨dv (dc rfl),S,?_⟩,Zw,Zb,aj (show(9:Int)+2*(done.length:Int)=((9+2*done.length:Nat):Int) by exact rfl),tw R d.num.h l0 (by exact dM t rfl) J (aF (cV (aP 2 h8) 9) (dc rfl)) (lv b rfl),(T f)];have E:y<2^39:=b_ hy (dc rfl);have G:T<2^39:=b_ f (dc rfl);have O:y%ts.length<ts.length:=fT _ i;erw[fh (og P O),(z Qn _ M u),Zg,ZI rfl,<-ZG m ?_,dW P.h F];rw[bG,aq];erw[dI (d4.mpr i),Zk,Zq,Za,Zo rfl,<-Zc m ?_,ax P.h F (fw M),Za,Zv rfl,Zs rfl rfl,dT (y:=5) rfl (iQ E).big rfl,dI (y:=4) rfl,Za,Zs rfl rfl,dT rfl (iQ E).big rfl,Zb];have h4:y / 5%4<4:=kv;erw[pn R d u NF (v9 E 20) (lv b rfl),(a C)];have B:=P.put (x:=a) (y':=.list a.vs) (z':=a.o) d.cells u.e;have D:=u.put (x:=a) (y':=.list a.vs) (z':=a.o) d.cells u.e;generalize upd (upd k (A.mt z.e) (.list a.vs)) z.e a.o=H3 at C B D;generalize A.put z.e a=g3 at C B D;erw[Zh,ZP,Zaa,Za,Zo rfl,<-Zc m ?_,ax B.h F (fw M),Zb,oy R C.cells D (lv b rfl),Zx,Zi,Ze,Zd,Zh,ZP,Zaa,Za,Zs rfl rfl,dI (y:=9) rfl,<-Zr m ?_,Zr rfl,<-Zr U ?_,<-Zr HL ?_,<-Zr T6 ?_,Za,Zs rfl rfl,dT (y:=9) rfl (iQ G).big rfl,Zb,Pd R C B O (aF h8 (dc rfl)) (aK (nQ _ _) (b_ f (dc rfl))) b,(H5 g5 I5),Zx,Zi,Ze,Zd,Ze,<-⟨trivial,ih _ _ ⟨done++[.int (done.length:Int)],g5,by erw[c_ e1];rewrite[aC];rfl,by erw[aj ah,<-I5],(((c.up (dc rfl)).up (dc rfl)).up (dc rfl)).up (dc rfl)⟩⟩]
end
def TB:List S:=.dp (.cmp .Gt (.call .len [(.comp (.loc 1000) dQ (some (.not (bD 818 [(.loc 1000)]))))]) (ek 0)) [dj (.cst (.bool false))] []:: .dp (.or [(.cmp .NotEq (bD 589 [Dt]) (bD 854 [xe])),(.cmp .NotEq (.bp (bw Bs 0) 13 []) (bD 906 [jW]))]) [dj (.cst (.bool false))] []::Ss
section
variable{G:Hp}
theorem aaG(R:Rd af w K)(I:Inv (a0,l.map λx:Nat=>V.int (x:Int)) pl A.gl B.kl wa 0 H g)(M:ja H g 20 A h sn rej cj)(p:jz h sn cj A.tr 0)(KB:HO H g B c)(E:c.Good)(l0:l≠[])(lz:l.length<=24)(lx:∀x∈l,x<1000000)(L:LR ρ (a0,l.map λx:Nat=>V.int (x:Int)) pl A.gl B.kl wa hd dZ)(U:ρ 8=some (.ref A.m))(W:ρ 6=some (.ref B.kr))(hh:hd<2^30)(hb:dZ<2^57)(j:aB 11 n=true)(q:∀a,Q (.bool true) a):bN af w K aH n TB ρ H (dF Q) (cG X):=by
 erw[bf I.y6,(ts P)];have jl:=P.len;have DO:(aT (ts.map (·.p))).length=ts.length:=by rw[bG,aq]
 have Y:=L.r3;have T:=L.r9;have HL:=L.HL;unfold TB;erw[Zh,Zy rfl,ZN,ZN,Za,ZK,<-Zc Y ?_];unfold tj;dsimp only;erw[aj P.h,<-⟨lM DO jl rfl,pL (λf G a=>a=H/\G=[]/\∃t2:List Tr,f=aT (t2.map (·.p))/\∀z∈t2,tZ H g z) _ _ ⟨rfl,rfl,ts,rfl,P.tr⟩ (λG a=>(cA · λe F _=>?_)) λv f G a=>(cA · λe F=>bI λt2 e1 e2 G' g1 g2=>?_)⟩]
 ·subst e;subst F;intro d D;have s:Ext a (upd a d (.list [])):=Ext.fresh Ext.refl D;have S:(upd a d (.list [])) d=some (.list []):=us;generalize upd a d (.list [])=H1 at s S;have O:=I.ext s;have t:=M.keep (.ext s);have N:=t.mb O.cells;have J:=ja.big (C:=O.cells) t p;have K1:=KB.keep (.ext s);have u:=K1.kb.c;have h2:([V.ref B.cm,.ref B.kr]).length<=100000:=dc rfl;erw[Zb,dW S (dc rfl),<-j7 (λz=>absurd z (dc rfl)) (λ_=>?_),Zi,Ze,Zd,Zh,ZT,Zn,ZH,<-Zz U ?_,<-fW R t.hm t.he N.BL.OU N.sn.Pf J.big (lv j rfl) (λ_=>?_) (λz=>absurd J.Hx z),<-Zz T ?_,tc R N J (lv j rfl),pX,ZM,Zn,ZH,Zm,Zo rfl,<-Zc HL ?_,ax K1.kb.k h2 rfl];unfold Cm.o at u;erw[bC u rfl,Zb,bt u rfl,<-kU R K1.kb.c E.b (lv j rfl) (λ_=>?_) (λz=>absurd E.i z),<-Zz W ?_,yJ R K1.kb.r E (lv j rfl),pX,ZM,ZD,Zi,Ze,Zd,<-aa1 R O l0 lz lx L hh hb j q]
 ·replace e:=e.symm;subst e
  induction t2 using lcs with
  |nil=>injection e1
  |cons z t2=>
   injection e1 with e1 e6
   subst e1;replace e6:=e6.symm;subst e6;erw[ZP,Zab rfl,oy R I.cells (e2 z kf) (lv j rfl),Zx,<-g1 _ P.h ⟨rfl,F,t2,rfl,λy hy=>e2 y (fV hy)⟩]
end
def R_:List S:=.bq 12 (.bin .Sub (.bin .Pow (ek 128) (.bin .Add (ek 1) (.bin .Mod dC (ek 8)))) (ek 1)):: .bq 13 (.lst [(.call (.cls 732 666) [I9]),I9,(.lst [])])::TB
section
variable{G:Hp}
theorem al(C:Cells H g)(K:Claim H g)(h:H a=none)(c:5<n):Cells (upd H a mo) (g.set a n)/\Claim (upd H a mo) (g.set a n)/\bJ (λn=>n≠0) H g (upd H a mo) (g.set a n)/\(g.set a n).R a=n:=by
 have k:=bJ.alloc (n:=n) (mo:=mo) K h;refine⟨C.keep (k.sub λn h=>by exact λV=>cH [(zn 1,av),(av,zn 0)] rt h.1 (aa V)) (λ_ _ _=>rfl) λb h1 h2=>?_,(K.ext (Ext.fresh Ext.refl h)).set (by rw[cX];exact λz=>nomatch z),k,gS⟩
 by_cases e:b=a
 ·rw[e,gS] at h2;exact aS ((cH [(zs (zn 5),av),(av,zn 5)] rt c h2).elim) ((cH [(zs (zn 5),av),(av,zn 5)] rt c h2).elim)
 ·exact(fA e).symm
theorem abX(R:Rd af w K)(C:Cells H g)(cl:Claim H g)(P:gF H g pl ts)(N:wG H g (a0,l.map λx:Nat=>V.int (x:Int)))(M:ja H g 20 A h sn rej cj)(p:jz h sn cj A.tr 0)(KB:HO H g B c)(gc:c.Good)(l0:l≠[])(lz:l.length<=24)(lx:∀x∈l,x<1000000)(r1:ρ 1=some (.ref a0))(r2:ρ 2=some (.int (hd:Int)))(r3:ρ 3=some (.ref pl))(r9:ρ 9=some (.ref A.gl))(HL:ρ 11=some (.ref B.kl))(r8:ρ 8=some (.ref A.m))(r6:ρ 6=some (.ref B.kr))(hh:hd<2^30)(J:aB 11 n=true)(q:∀H',Q (.bool true) H'):bN af w K aH n R_ ρ H (dF Q) (cG X):=by
 have m8:hd%8<8:=kv;unfold R_;erw[Zg,Zv rfl,ZI rfl,ZI rfl,Zv rfl,<-Zc r2 ?_,dI rfl,Zw,aj (show(1:Int)+((hd%8:Nat):Int)=((1+hd%8:Nat):Int) by exact Na),<-⟨gV,aw.mpr (dK [(zs av,zn 8)] (zp (zn 1) av,zn 1000) rt kv),by decide,?_⟩];rw[Ao];have p1:128^(1+hd%8)<=128^8:=d3 (dc rfl) (dK [(zs av,zn 8)] (zp (zn 1) av,zn 8) rt kv);have p0:128^1<=128^(1+hd%8):=d3 (dc rfl) (dK [] (zn 1,zp (zn 1) av) rt);have p8:(128:Nat)^8=72057594037927936:=dc rfl;erw[Z3,Zg,eR rfl,Za,aj (show((128^(1+hd%8):Nat):Int)-1=((128^(1+hd%8)-1:Nat):Int) by exact da (oE [(.sub cN (yn 1),dX)] (.sub cN (yn 1),dX) rt (aG (ao (cW (aw.mp (oZ [(yn 128,cN)] (yn 1,cN) rt (aw.mpr p0))))))) (oE [(cN,.sub dX (yn 1))] (cN,.sub dX (yn 1)) rt (aG (cW (aw.mp (oZ [(yn 128,cN)] (yn 1,cN) rt (aw.mpr p0)))))))];generalize WC:128^(1+hd%8)-1=dZ;erw[ZQ,ZF rfl,(u hu),<-Gi R hu (lv J rfl) λb RU O=>⟨rfl,?_⟩,dY (al (n:=9) (mo:=.list []) C cl RU (dc rfl)),(C1 Dw k1 e1)];have h1:(upd H b (.list [])) b=some (.list []):=us;have D:(upd H b (.list [])) u=none:=(dr _ _ O).trans hu;generalize upd H b (.list [])=H1 at C1 Dw k1 h1 D;generalize g.set b 9=g1 at C1 Dw k1 e1;erw[dY (al (n:=8) (mo:=BK b dZ) C1 Dw D (dc rfl)),(C2 Nm Y e2)];have h2:(upd H1 u (BK b dZ)) u=some (BK b dZ):=us;generalize upd H1 u (BK b dZ)=H2 at C2 Nm Y h2;generalize g1.set u 8=g2 at C2 Nm Y e2;erw[Zr rfl,Za,eR rfl,Zb,(d UQ),dY (al (n:=10) (mo:=.list []) C2 Nm UQ (dc rfl)),(C3 Oc W e3)];have h3:(upd H2 d (.list [])) d=some (.list []):=us;generalize upd H2 d (.list [])=H3 at C3 Oc W h3;generalize g2.set d 10=g3 at C3 Oc W e3;erw[(t hwl),dY (al (n:=7) (mo:=.list [.ref u,.int (dZ:Int),.ref d]) C3 Oc hwl (dc rfl)),(C4 s y e4)];have h4:(upd H3 t (.list [.ref u,.int (dZ:Int),.ref d])) t=some (.list [.ref u,.int (dZ:Int),.ref d]):=us;generalize upd H3 t (.list [.ref u,.int (dZ:Int),.ref d])=H4 at C4 s y h4;generalize g3.set t 7=g4 at C4 s y e4;have j:=W.trans y;have Rf:=Y.trans j;have k:=k1.trans Rf;have G:∀{S:Nat->Prop},(¬S 0)->∀n,S n->n≠0:=λz n J e=>z (e▸J);have M4:=M.keep (k.sub (G (by unfold oG;decide)));have F:=KB.keep (k.sub (G (dc rfl)));have f:∀{a:Addr} {i:Nat} {L:Hp} {E:Gh},bJ (λn=>n≠0) L E H4 g4->E.R a=i->i≠0->g4.R a=i:=λU e T=>(U.r _ (aj e T)).trans e;have o:∀{a:Addr} {i:Nat} {L:Hp} {E:Gh} {v:MO},bJ (λn=>n≠0) L E H4 g4->E.R a=i->i≠0->L a=some v->H4 a=some v:=λU e T q=>U.h _ _ (aj e T) q;have I:Inv (a0,l.map λx:Nat=>V.int (x:Int)) pl A.gl B.kl t 0 H4 g4:=⟨C4,s,⟨ts,P.keep (k.sub (G (dc rfl)))⟩,⟨A,h,sn,rej,cj,rfl,M4,p⟩,⟨B,c,rfl,F,gc⟩,
  ⟨⟨t,u,b,d⟩,dZ,[],rfl,⟨h4,o j e2 (dc rfl) h2,o Rf e1 (dc rfl) h1,o y e3 (dc rfl) h3,(λ_ z=>nomatch z),.nil,e4,f j e2 (dc rfl),f Rf e1 (dc rfl),f y e3 (dc rfl)⟩,⟨gP [(zn 128,av),(aX,bT),(av,zs aX)] (zn 110,zk bT 0) rt p0 (aa WC) (aa (ao (bM (dK [(zn 128,av)] (zn 1,av) rt p0)))),gP [(av,aX),(bT,zn 72057594037927936),(aX,bT)] (av,zp (zn 144115188075855872) (zm 100 (zn 0))) rt (aa (ao WC)) p1 (i5 _ _),by decide⟩⟩,N.keep (k.sub (G (dc rfl)))⟩
 exact aaG R I M4 p F gc l0 lz lx ⟨r1,r2,r3,r9,HL,rfl,rfl⟩ r8 r6 hh (gP [(av,aX),(bT,zn 72057594037927936),(aX,bT)] (zs av,zn 144115188075855872) rt (aa (ao WC)) p1 (i5 _ _)) J q
end
def Kf:List S:=.bq 11 (.lst [(.call (.cls 627 610) [(bw jW 0),(bw jW 1),(bw jW 2),(bw jW 3),(bw jW 4),(bw jW 5)]),jW])::R_
def Tn:List S:=.bq 5 (bD 743 [bA,(ek 7)]):: .bq 6 (.lst [(.bin .Mod fJ (ek 7)),(bD 750 [(.bin .FloorDiv fJ (ek 7))]),(bD 750 [(.bin .FloorDiv fJ (ek 77))]),(bD 764 [(.bin .FloorDiv fJ (ek 3))]),(bD 764 [(.bin .FloorDiv fJ (ek 13))]),(.cst .none)]):: .dp (.cmp .Eq (.bin .Mod fJ (ek 2)) (ek 1)) [.hX jW (ek 5) (bD 764 [(.bin .FloorDiv fJ (ek 17))])] []::Kf
section
variable{G:Hp}
theorem QG(R:Rd af w K){c:Cm}(C:Cells H g)(cl:Claim H g)(P:gF H g pl ts)(N:wG H g (a0,l.map λx:Nat=>V.int (x:Int)))(M:ja H g 20 A h sn rej cj)(p:jz h sn cj A.tr 0)(d:H kr=some (.list c.vs))(B:g.R kr=13)(Y:c.Good)(l0:l≠[])(T:l.length<=24)(U:∀x∈l,x<1000000)(O:ρ 1=some (.ref a0))(L:ρ 2=some (.int (hd:Int)))(J:ρ 3=some (.ref pl))(G:ρ 9=some (.ref A.gl))(I:ρ 8=some (.ref A.m))(b:ρ 6=some (.ref kr))(W:hd<2^30)(j:aB 11 n=true)(q:∀H',Q (.bool true) H'):bN af w K aH n Kf ρ H (dF Q) (cG X):=by
 have h6:c.vs.length<=100000:=dc rfl;unfold Kf;erw[Zg,eR rfl,Za,ZQ,Za,Zo rfl,<-Zc b ?_,ax d h6 rfl,Za,Zo rfl,<-Zc b ?_,ax d h6 rfl,Za,Zo rfl,<-Zc b ?_,ax d h6 rfl,Za,Zo rfl,<-Zc b ?_,ax d h6 rfl,Za,Zo rfl,<-Zc b ?_,ax d h6 rfl,Za,Zo rfl,<-Zc b ?_,ax d h6 rfl,Zb,(a E7),<-yy R (lv j rfl) ⟨rfl,?_⟩,dY (al (n:=12) (mo:=c.o) C cl E7 (dc rfl)),(y D t e1)];have h1:(upd H a c.o) a=some c.o:=us;show hM af w K aH n _ _ (upd H a c.o) _ _;generalize upd H a c.o=H1 at y D t h1;generalize g.set a 12=g1 at y D t e1;erw[<-ZF b ?_,(f OD),dY (al (n:=11) (mo:=.list [.ref a,.ref kr]) y D OD (dc rfl)),(v u i e2)];have h2:(upd H1 f (.list [.ref a,.ref kr])) f=some (.list [.ref a,.ref kr]):=us;generalize upd H1 f (.list [.ref a,.ref kr])=H2 at v u i h2;generalize g1.set f 11=g2 at v u i e2;have k:=t.trans i;have s:∀{S:Nat->Prop},(¬S 0)->∀n,S n->n≠0:=λz n j e=>z (e▸j);have F:g1.R a≠0:=by refine' aj e1 ?_;decide
 have E:g.R kr≠0:=by refine' aj B ?_;decide
 have KB:HO H2 g2 ⟨f,a,kr⟩ c:=⟨⟨h2,i.h _ _ F h1,k.h _ _ E d⟩,e2,(i.r _ F).trans e1,(k.r _ E).trans B⟩;exact abX R v u (P.keep (k.sub (s (dc rfl)))) (N.keep (k.sub (s (dc rfl)))) (M.keep (k.sub (s (by unfold oG;decide)))) p KB Y l0 T U O L J G rfl I b W j q
theorem Xs(R:Rd af w K)(C:Cells H g)(cl:Claim H g)(P:gF H g pl ts)(N:wG H g (a0,l.map λx:Nat=>V.int (x:Int)))(M:ja H g 20 A h sn rej cj)(p:jz h sn cj A.tr 0)(l0:l≠[])(o:l.length<=24)(u:∀x∈l,x<1000000)(r:ρ 1=some (.ref a0))(r2:ρ 2=some (.int (hd:Int)))(r3:ρ 3=some (.ref pl))(r9:ρ 9=some (.ref A.gl))(r8:ρ 8=some (.ref A.m))(hh:hd<2^30)(a:aB 11 n=true)(q:∀H',Q (.bool true) H'):bN af w K aH n Tn ρ H (dF Q) (cG X):=by
 unfold Tn;erw[Zg,<-ZU r rfl ?_,tw R N.h l0 (dM o rfl) u (dc rfl) (lv a rfl),(y hy)];have t:y<2^39:=b_ hy (dc rfl);have m7:y%7<7:=kv;erw[Zg,eR rfl,Za,Zs rfl rfl,dI rfl,Za,Zq,Za,Zs rfl rfl,dT rfl (iQ t).big rfl,Zb,jf R (iQ (v9 t 7)) (lv a rfl),(b JV),Za,Zq,Za,Zs rfl rfl,dT rfl (iQ t).big rfl,Zb,jf R (iQ (v9 t 77)) (lv a rfl),(v JY),Za,Zq,Za,Zs rfl rfl,dT rfl (iQ t).big rfl,Zb,mv R (iQ (v9 t 3)) (lv a rfl),(f I),Za,Zq,Za,Zs rfl rfl,dT rfl (iQ t).big rfl,Zb,mv R (iQ (v9 t 13)) (lv a rfl),(c G),ZF rfl,(k E)];have gd:∀J:Option (List UInt8),(∀d,J=some d->d.length<=200)->(⟨(y%7:Nat),b,v,f,c,J⟩:Cm).Good:=λJ hx=>⟨⟨dv (JR kv rfl),dv (JR JV rfl),dv (JR JY rfl),by exact dM I rfl,by exact dM G rfl,hx⟩,⟨gV,by exact Vo,⟨gV,by exact o6 JV⟩,⟨gV,by exact o6 JY⟩⟩⟩;erw[dY (al (n:=13) (mo:=.list (⟨(y%7:Nat),b,v,f,c,none⟩:Cm).vs) C cl E (dc rfl)),(j D i e1)];have h1:(upd H k (.list (⟨(y%7:Nat),b,v,f,c,none⟩:Cm).vs)) k=some (.list (⟨(y%7:Nat),b,v,f,c,none⟩:Cm).vs):=us;show bN af w K aH n _ _ (upd H k (.list (⟨(y%7:Nat),b,v,f,c,none⟩:Cm).vs)) _ _;generalize upd H k (.list (⟨(y%7:Nat),b,v,f,c,none⟩:Cm).vs)=H1 at j D i h1;generalize g.set k 13=g1 at j D i e1;have s:∀{S:Nat->Prop},(¬S 0)->∀n,S n->n≠0:=λz n a e=>z (e▸a);have P1:=P.keep (i.sub (s (dc rfl)));have N1:=N.keep (i.sub (s (dc rfl)));have M1:=M.keep (i.sub (s (by unfold oG;decide)));erw[Zh,Zy rfl,Zs rfl rfl,dI rfl,<-cq (λ_=>?_) (λ_=>?_)]
 ·erw[Zp,ZJ,Zq,Za,Zs rfl rfl,dT rfl (iQ t).big rfl,Zb,mv R (iQ (v9 t 17)) (lv a rfl),(L F),Zc rfl,ZA,jc h1 (dc rfl) (dc rfl) (dc rfl)];have B:bJ (λn=>n≠13) H1 g1 (upd H1 k (.list (⟨(y%7:Nat),b,v,f,c,some L⟩:Cm).vs)) g1:=.upd (aj e1 (dc rfl));have h2:(upd H1 k (.list (⟨(y%7:Nat),b,v,f,c,some L⟩:Cm).vs)) k=some (.list (⟨(y%7:Nat),b,v,f,c,some L⟩:Cm).vs):=us;erw[Ze,Zd,<-QG R (j.off (aj e1 (dc rfl))) D.upd (P1.keep (B.sub λn h=>by exact λW=>h.elim (λY=>cH [(zn 13,av),(av,zn 1)] rt (aa (ao W)) (aa Y)) (λY=>Y.elim (λU=>cH [(zn 13,av),(av,zn 3)] rt (aa (ao W)) (aa U)) (λU=>cH [(zn 13,av),(av,zn 6)] rt (aa (ao W)) (aa U))))) (N1.keep (B.sub λn h=>by exact TF h rfl)) (M1.keep (B.sub λn h=>by unfold oG at h;exact λO=>h.elim (λDe=>cH [(zn 13,av),(av,zn 1)] rt (aa (ao O)) (aa De)) (λDe=>De.elim (λT=>cH [(zn 13,av),(av,zn 3)] rt (aa (ao O)) (aa T)) (λT=>cH [(av,zn 13),(zn 20,av)] rt (aa O) T.1)))) p h2 e1 (gd _ λd hd=>by injection hd with hd;subst hd;exact dM F rfl) l0 o u r r2 r3 r9 r8 rfl hh a q]
 ·erw[Zi,Ze,Zd,<-QG R j D P1 N1 M1 p h1 e1 (gd _ λd hd=>nomatch hd) l0 o u r r2 r3 r9 r8 rfl hh a q]
end
def RY:List S:=.dp (.cmp .Lt (.bin .Mod (.bin .FloorDiv dC (ek 3)) (ek 4)) (ek 3)) [.expr (bD 892 [xe,(.lst [(bD 750 [(.bin .FloorDiv fJ (ek 5))]),(bD 750 [(.bin .FloorDiv fJ (ek 7))]),(.lst [(.bin .Add (ek 1) (.bin .Mod fJ (ek 5)))]),(.cmp .Eq (.bin .Mod fJ (ek 3)) (ek 0)),(bD 764 [(.bin .FloorDiv fJ (ek 11))])])])] []::Tn
section
variable{G:Hp}
theorem runC(R:Rd af w K)(C:Cells H g)(cl:Claim H g)(P:gF H g pl ts)(N:wG H g (a0,l.map λx:Nat=>V.int (x:Int)))(M:ja H g 20 A h none rej cj)(p:jz h none cj A.tr 0)(l0:l≠[])(lz:l.length<=24)(lx:∀x∈l,x<1000000)(r1:ρ 1=some (.ref a0))(L:ρ 2=some (.int (hd:Int)))(r3:ρ 3=some (.ref pl))(r:ρ 5=some (.int (y:Int)))(J:ρ 9=some (.ref A.gl))(r8:ρ 8=some (.ref A.m))(hy:y<2^30)(T:hd<2^30)(j:aB 11 n=true)(q:∀H',Q (.bool true) H'):bN af w K aH n RY ρ H (dF Q) (cG X):=by
 have t:y<2^39:=b_ hy (dc rfl);have Rl:hd<2^39:=b_ T (dc rfl);unfold RY;erw[Zh,Zy rfl,Zv rfl,Zv rfl,<-Zc L ?_,dT rfl (iQ Rl).big rfl,dI rfl,<-fH (λ_=>?_) (λ_=>?_)]
 ·erw[Zp,Zk,Zq,<-Zr J ?_,Za,eR rfl,Za,Zq,Za,Zv rfl,<-Zc r ?_,dT rfl (iQ t).big rfl,Zb,jf R (iQ (v9 t 5)) (lv j rfl),(F JV),Za,Zq,Za,Zv rfl,<-Zc r ?_,dT rfl (iQ t).big rfl,Zb,jf R (iQ (v9 t 7)) (lv j rfl),(E JY),Za,eR rfl,Za,ZI rfl,Zv rfl,<-Zc r ?_,dI rfl,Zw,Zb,(s2 DM),Za,Zah rfl,Zv rfl,<-Zc r ?_,dI rfl];have br:∀{a b:Int} {G:Bool->Prop} {H:Hp},(∀u:Bool,G u)->jH .Eq (.int a) (.int b) H G:=λh=>cq (λ_=>h true) λ_=>h false;erw[br,(u),Za,Zq,Za,Zv rfl,<-Zc r ?_,dT rfl (iQ t).big rfl,Zb,mv R (iQ (v9 t 11)) (lv j rfl),(d U),Zb,(sl D)];have e2:([.int (1+((y%5:Nat):Int))]:List V)=iv [1+((y%5:Nat):Int)]:=rfl;rw[e2] at D⊢;have h5:y%5<5:=kv;generalize o:([1+((y%5:Nat):Int)])=ids at D⊢;have Y:xh ids:=by
   erw[c_ o,<-⟨fE _ _,by show 1<=30;decide,λi S=>by erw[aj (aR.mp S),<-⟨YK,aw.mpr (dK [(zs av,zn 5)] (zp (zn 1) av,zn 18446744073709551615) rt kv)⟩]⟩]
  erw[aD (bo D),(I X4)];have e3:([.int (F:Int),.int (E:Int),.ref s2,.bool u,.bytes d]:List V)=(Sn.mk (F:Int) (E:Int) ids u d).vs s2:=rfl;erw[aj e3];generalize Yn:Sn.mk F E ids u d=s;have v:s.ids=ids:=by refine' c_ Yn ?_;rfl
  have B:Ext H (upd (upd H s2 (.list (iv ids))) sl (.list (s.vs s2))):=(Ext.fresh Ext.refl DM).trans (Ext.fresh Ext.refl D);have c2:(upd (upd H s2 (.list (iv ids))) sl (.list (s.vs s2))) s2=some (.list (iv ids)):=ae (aJ X4) us;have c1:(upd (upd H s2 (.list (iv ids))) sl (.list (s.vs s2))) sl=some (.list (s.vs s2)):=us;generalize U7:upd (upd H s2 (.list (iv ids))) sl (.list (s.vs s2))=H2 at B c1 c2⊢;have Ok:s.Ok:=by
   erw[c_ Yn,<-⟨⟨gV,by exact o6 JV⟩,⟨gV,by exact o6 JY⟩,Y,by exact dM U rfl⟩]
  erw[B1 R (cl.ext B) (M.keep (.ext B)) (cl.fresh I) (cl.fresh DM) c1 (aj v c2) Ok (aj v (c_ o (λe=>(nomatch e)))) (lv j rfl),(H' g' z k e b W M')];have O:=(bJ.ext B).trans (k.sub λn h=>by exact Yx h);erw[Ze,Zd,<-Xs R (C.keep (O.sub λn h=>by exact R7 h) (λa _ _=>by erw[aj e];rfl) λa h1 h2=>?_) W (P.keep (O.sub λn h=>by exact Yj h)) (N.keep (O.sub λn h=>by exact WD h)) M' ⟨p.hi,p.zx,p.len,λs' f=>?_,p.c⟩ l0 lz lx r1 L r3 J r8 T j q]
  ·rcases b a with h|h
   ·exact h.symm
   ·exact aS ((cH [(zn 25,av),(av,zn 5)] rt h h2).elim) ((cH [(zn 25,av),(av,zn 5)] rt h h2).elim)
  ·injection f with f;subst f
   refine⟨Ok,(aj v (c_ o (λe=>(nomatch e)))),?_,?_⟩
   ·erw[aj v,c_ o];show 1<=0+1;decide
   ·erw[aj v,c_ o,(i S),aj (aR.mp S),<-aw.mpr (dK [(zs av,zn 5)] (zp (zn 1) av,zm 200 (zs (zn 0))) rt kv)]
 ·erw[Zi,Ze,Zd,<-Xs R C cl P N M p l0 lz lx r1 L r3 J r8 T j q]
end
def Ll:List S:=.cD Dt 15 (.comp (bw (.loc 1000) 0) (bw xe 3) none):: .cD Dt 18 (bw xe 2):: .cD Dt 20 (bw xe 5)::RY
def KR:List S:=.forR 10 (some (ek 4)) (ek 8) [.expr (bD 885 [xe,Ez,(.sub A0 Ez)])]::Ll
def Rp:List S:=.bq 5 (bD 743 [bA,(ek 6)]):: .bq 7 (.bin .Add (.lst [(.bin .Mod (.bin .FloorDiv dC (ek 5)) (ek 21))]) (.kg (bD 750 [(.bin .FloorDiv fJ (.bin .Pow (ek 3) (.loc 1000)))]) (ek 7))):: .bq 8 (.call (.cls 578 565) [(bw A0 0),(bw A0 1),(bw A0 2),(bw A0 3)]):: .bq 9 (.lst [Dt,A0,(.cmp .Eq (.bin .Mod fJ (ek 2)) (ek 1)),(.A4 dQ none (some (.sub (.tup [(ek 2),(ek 1),(ek 3),(ek 0)]) (.bin .Mod fJ (ek 4))))),(.cst .none),(bD 764 [(.bin .FloorDiv fJ (ek 9))])])::KR
theorem JJ(h:Nat->Int)(f:Nat):hY h f (h f)=h:=funext λj=>by
 unfold hY
 split
 ·next e=>refine' aj e ?_;rfl
 ·rfl
theorem abc(e:Nat):(3:Int)^((e:Nat):Int).toNat=((3^e:Nat):Int):=by rw[aM];simp
theorem GG(e:∀j,j<8->h j=k j):dE h me v r c=dE k me v r c:=by
 unfold dE;erw[aj (e 0 (dc rfl)),aj (e 1 (dc rfl)),aj (e 2 (dc rfl)),aj (e 3 (dc rfl)),aj (e 4 (dc rfl)),aj (e 5 (dc rfl)),aj (e 6 (dc rfl)),aj (e 7 (dc rfl))];rfl
section
variable{G:Hp}
theorem V1(R:Rd af w K){A:CB}(ea:A.sa=none)(C:Cells H g)(cl:Claim H g)(P:gF H g pl ts)(N:wG H g (a0,l.map λx:Nat=>V.int (x:Int)))(p:jz h none cj A.tr 0)(hs:∀z∈A.tr,z∈ts)(hg:H A.gl=some (.list (A.gv rej cj)))(hm:H A.m=some (dE h me .none false []))(hu:H A.nu=some (.list (hl h)))(h3:H A.g3=some (.list (aT (A.tr.map (·.p)))))(v:g.R A.gl=20)(d:g.R A.m=21)(F:g.R A.nu=22)(L:g.R A.g3=23)(l0:l≠[])(lz:l.length<=24)(lx:∀x∈l,x<1000000)(r1:ρ 1=some (.ref a0))(r2:ρ 2=some (.int (hd:Int)))(r3:ρ 3=some (.ref pl))(r5:ρ 5=some (.int (y:Int)))(B:ρ 9=some (.ref A.gl))(D:ρ 8=some (.ref A.m))(hy:y<2^30)(hh:hd<2^30)(I:aB 11 n=true)(q:∀H',Q (.bool true) H'):bN af w K aH n Ll ρ H (dF Q) (cG X):=by
 rcases A with⟨gl,m,nu,g3,m0,tr,sa⟩
 dsimp only at*;subst ea;have h6:∀r c,(CB.gv ⟨gl,m,nu,g3,m0,tr,none⟩ r c).length<=100000:=λr c=>by show 6<=100000;decide
 have l5:=p.len;unfold Ll;erw[Zu,ZK,Zo rfl,<-Zc B ?_,ax hg (h6 _ _) rfl,<-tA (λz=>.ref z.e) h3 (dM l5 rfl) (λz s G' hG=>?_) λc hc=>?_]
 ·erw[Zf rfl rfl,<-ax (P.tr z (hs z s)).h (dc rfl) rfl hG]
 have ee:tr.map (λz=>V.ref z.e)=aT (tr.map (·.e)):=by unfold aT;refine' aj eu ?_;rfl
 erw[aj ee,dY (al (n:=24) (mo:=.list (aT (tr.map (·.e)))) C cl hc (dc rfl)),(W U k e1)];have h1:(upd H c (.list (aT (tr.map (·.e))))) c=some (.list (aT (tr.map (·.e)))):=us;generalize upd H c (.list (aT (tr.map (·.e))))=H1 at W U k h1;generalize g.set c 24=g1 at W U k e1;have sb:∀{S:Nat->Prop},(¬S 0)->∀n,S n->n≠0:=λz n I e=>z (e▸I);have P1:=P.keep (k.sub (sb (dc rfl)));have N1:=N.keep (k.sub (sb (dc rfl)));have st:∀{a:Addr} {i:Nat},g.R a=i->i≠0->g1.R a=i:=λe j=>(k.r _ (aj e j)).trans e;have u:∀{a:Addr} {i:Nat} {b:MO},g.R a=i->i≠0->H a=some b->H1 a=some b:=λe j q=>k.h _ _ (aj e j) q;have QS:=u v (dc rfl) hg;have Y:=u d (dc rfl) hm;have G:=u F (dc rfl) hu;have J:=u L (dc rfl) h3;have Oh:=bX d v (dc rfl);unfold dE at Y;erw[<-Zc D ?_,bQ Y rfl rfl,Zu,Zo rfl,<-Zc B ?_];have t:=λy=>ae (mo:=y) (aJ Oh) QS;erw[ax (t _) (h6 _ _) rfl,<-Zc D ?_,bQ us rfl rfl,Zu,Zo rfl,<-Zc B ?_];have YZ:=λy z=>ae (mo:=z) (aJ Oh) (t y);erw[ax (YZ _ _) (h6 _ _) rfl,<-Zc D ?_,bQ us rfl rfl];rw[bR,bR];have M:ja (upd H1 m (dE h c (yR none) rej cj)) g1 20 ⟨gl,m,nu,g3,c,tr,none⟩ h none rej cj:=by
  have o:bJ (λn=>n≠21) H1 g1 (upd H1 m (dE h c (yR none) rej cj)) g1:=.upd (aj (st d (dc rfl)) (dc rfl));have f:∀{a:Addr} {i:Nat} {b:MO},g1.R a=i->i≠21->H1 a=some b->(upd H1 m (dE h c (yR none) rej cj)) a=some b:=λe j q=>o.h _ _ (aj e j) q;exact⟨f (st v (dc rfl)) (dc rfl) QS,us,f (st F (dc rfl)) (dc rfl) G,f (st L (dc rfl)) (dc rfl) J,f e1 (dc rfl) h1,λz s=>(P1.tr z (hs z s)).keep o (dc rfl) (dc rfl),trivial,st v (dc rfl),st d (dc rfl),st F (dc rfl),st L (dc rfl),e1,λz s=>nomatch s⟩
 have o:bJ (λn=>n≠21) H1 g1 (upd H1 m (dE h c (yR none) rej cj)) g1:=.upd (aj (st d (dc rfl)) (dc rfl));exact runC R (W.off (aj (st d (dc rfl)) (dc rfl))) U.upd (P1.keep (o.sub λn h=>by exact λO=>h.elim (λT=>cH [(zn 21,av),(av,zn 1)] rt (aa (ao O)) (aa T)) (λT=>T.elim (λE=>cH [(zn 21,av),(av,zn 3)] rt (aa (ao O)) (aa E)) (λE=>cH [(zn 21,av),(av,zn 6)] rt (aa (ao O)) (aa E))))) (N1.keep (o.sub λn h=>by exact TF h rfl)) M p l0 lz lx r1 r2 r3 r5 B D hy hh I q
end
theorem Pc{v:V}(e:done++v::rest=[.int 4,.int 5,.int 6,.int 7]):v=.int ((4+done.length:Nat):Int)/\done.length<4:=by
 have e1:=congrArg (λl:List V=>l[done.length]?) e;rw[iW qQ,oC] at e1;have e2:=congrArg cF e;rw[ah] at e2;have e3:=e2;have l4:done.length<4:=by exact fp [(zp av (zs aX),zn 4)] (zs av,zn 4) rt (aa e3)
 generalize done.length=k at e1 l4;refine⟨?_,l4⟩;revert e1;refine W_ l4 ?_ ?_ ?_ ?_<;>exact λe1=>bV e1
section
variable{G:Hp}
theorem P9{lo a:E}(h:dm af w K aH n lo ρ H (λu d=>∃j,u=.int j/\dm af w K aH n a ρ d (λv c=>∃k,v=.int k/\(0:Int)<=j/\j<=(1000:Int)/\0<=k/\k<=1000/\forL (λv ρ H Q=>bN af w K aH n b (upd ρ x v) H Q X) (λ_=>True) (gK j k) ρ c (ic af w K n ms F X)) X) X):
  bN af w K aH n (.forR x (some lo) a b::ms) ρ H F X:=h
theorem Xw(R:Rd af w K){A:CB}(ea:A.sa=none)(C:Cells H g)(cl:Claim H g)(P:gF H g pl ts)(N:wG H g (a0,l.map λx:Nat=>V.int (x:Int)))(p:jz h none cj A.tr 0)(hs:∀z∈A.tr,z∈ts)(i:H A.gl=some (.list (A.gv rej cj)))(f:H A.m=some (dE h0 me .none false []))(e0:∀j,j<4->h0 j=h j)(d:H A.nu=some (.list (hl h)))(h3:H A.g3=some (.list (aT (A.tr.map (·.p)))))(M:g.R A.gl=20)(L:g.R A.m=21)(I:g.R A.nu=22)(Vj:g.R A.g3=23)(l0:l≠[])(lz:l.length<=24)(lx:∀x∈l,x<1000000)(D:ρ 1=some (.ref a0))(B:ρ 2=some (.int (hd:Int)))(u:ρ 3=some (.ref pl))(t:ρ 5=some (.int (y:Int)))(c:ρ 9=some (.ref A.gl))(o:ρ 8=some (.ref A.m))(s:ρ 7=some (.ref A.nu))(hy:y<2^30)(hh:hd<2^30)(F:aB 11 n=true)(q:∀b,Q (.bool true) b):bN af w K aH n KR ρ H (dF Q) (cG X):=by
 unfold KR;erw[P9,ZA,ie,ZA,ie,<-⟨by decide,by decide,by decide,by decide,?_⟩];refine wD (λr ρ b=>∃done k,done++r=[V.int 4,.int 5,.int 6,.int 7]/\Cells b g/\Claim b g/\gF b g pl ts/\wG b g (a0,l.map λx:Nat=>V.int x)/\b A.gl=some (.list (A.gv rej cj))/\b A.m=some (dE k me .none false [])/\(∀j,j<4+done.length->k j=h j)/\b A.nu=some (.list (hl h))/\b A.g3=some (.list (aT (A.tr.map (·.p))))/\ρ 1=some (.ref a0)/\ρ 2=some (.int hd)/\ρ 3=some (.ref pl)/\ρ 5=some (.int y)/\ρ 9=some (.ref A.gl)/\ρ 8=some (.ref A.m)/\ρ 7=some (.ref A.nu)) _
  ⟨[],h0,rfl,C,cl,P,N,i,f,e0,d,h3,D,B,u,t,c,o,s⟩ (λρ H2=>(HQ · λdone k G C cl P N i f e d h3 D B u t c o s=>?_)) λv r ρ b ih=>(HQ · λdone k G C cl P N i f e d h3 D B u t c o s=>?_)
 ·have:done.length=4:=by rw[bb] at G;refine' aj G ?_;rfl
  rw[GG λj J=>e j (fp [(zs av,zn 8),(zn 4,aX)] (zs av,zp (zn 4) aX) rt J (aa (ao this)))] at f;erw[Zd,<-V1 R ea C cl P N p hs i f d h3 M L I Vj l0 lz lx D B u t c o hy hh F q]
 ·erw[aD (Pc G),(eK l4)];subst eK;have h8:(hl h).length<=100000:=dc rfl;have f8:4+done.length<8:=by exact dK [(zs av,zn 4)] (zs (zp (zn 4) av),zn 8) rt l4
  erw[Zk,Zq,<-Zr c ?_,Zr rfl,Za,Zo rfl,<-Zc s ?_,ax d h8 (fw (J5 h f8)),Zb,NV R (dK [(zs av,zn 4)] (zp (zn 4) av,zn 7) rt l4) i f d (bX M I (dc rfl)) (lv F rfl)];rw[JJ];erw[Ze];have st:∀a n E,g.R a=n->n≠21->n≠22->b a=some E->(upd (upd b A.nu (.list (hl h))) A.m (dE (hY k (4+done.length) (h (4+done.length))) me .none false [])) a=some E:=λa n E e n1 n2 q=>
   ae (λz=>n1 (c_ e (aj z (aj L rfl)))) (ae (λz=>n2 (c_ e (aj z (aj I rfl)))) q)
  have O:bJ (λn=>n≠21/\n≠22) b g (upd (upd b A.nu (.list (hl h))) A.m (dE (hY k (4+done.length) (h (4+done.length))) me .none false [])) g:=⟨λ_ _=>rfl,λ_ _=>rfl,λa E F q=>st a _ E rfl F.1 F.2 q⟩;refine⟨trivial,ih _ _ ⟨done++[.int (4+done.length:Nat)],_,by erw[c_ G];rewrite[aC];rfl,C.keep (O.sub λn h=>by exact⟨λCC=>cH [(av,zn 5),(zn 21,av)] rt h.2 (aa (ao CC)),λDh=>cH [(av,zn 5),(zn 22,av)] rt h.2 (aa (ao Dh))⟩) (λ_ _ _=>rfl) (λ_ _ _=>rfl),cl.upd.upd,P.keep (O.sub λn h=>by exact⟨λGF=>h.elim (λY=>cH [(zn 21,av),(av,zn 1)] rt (aa (ao GF)) (aa Y)) (λY=>Y.elim (λU=>cH [(zn 21,av),(av,zn 3)] rt (aa (ao GF)) (aa U)) (λU=>cH [(zn 21,av),(av,zn 6)] rt (aa (ao GF)) (aa U))),λT=>h.elim (λW=>cH [(zn 22,av),(av,zn 1)] rt (aa (ao T)) (aa W)) (λW=>W.elim (λGB=>cH [(zn 22,av),(av,zn 3)] rt (aa (ao T)) (aa GB)) (λGB=>cH [(zn 22,av),(av,zn 6)] rt (aa (ao T)) (aa GB)))⟩),N.keep (O.sub λn h=>by exact⟨λLr=>cH [(av,zn 14),(zn 21,av)] rt (aa h) (aa (ao Lr)),λLH=>cH [(av,zn 14),(zn 22,av)] rt (aa h) (aa (ao LH))⟩),st _ _ _ M (dc rfl) (dc rfl) i,us,λj J=>?_,ae (bX I L (dc rfl)) us,st _ _ _ Vj (dc rfl) (dc rfl) h3,D,B,u,t,c,o,s⟩⟩;unfold hY
  split
  ·next e=>refine' aj e ?_;rfl
  ·rw[ah] at J;exact e j (by have:=J;exact(iw (by assumption)).elim (λS=>S) (λS=>(FQ [(zs av,zp (zn 4) (zs aX)),(zs (zp (zn 4) aX),av)] rt this S).elim))
end
theorem un(h:l.length=n+1):∃a r,l=a::r/\r.length=n:=by
 induction l using lcs with
 |nil=>injection h
 |cons a r=>exact⟨a,r,rfl,Nat.succ.inj h⟩
theorem Y2{ws:List Nat}(h:ws.length=7)(a:Nat)(v:∀x∈ws,x<2^64)(m:a<=20):∃k:Nat->Int,(V.int (a:Int)::ws.map λx:Nat=>V.int (x:Int))=hl k/\(∀j,j<8->rG (k j))/\k 0<=20:=by
 erw[df (un h),(l l0 e0 t),df (un t),(i l1 e1 s),df (un s),(g l2 e2 r),df (un r),(e l3 e3 q),df (un q),(d l4 e4 p),df (un p),(c l5 e5 o),df (un o),(w l6 e6 n)];have e7:=e0.trans (congrArg (rC l) (e1.trans (congrArg (rC i) (e2.trans (congrArg (rC g) (e3.trans (congrArg (rC e) (e4.trans (congrArg (rC d) (e5.trans (congrArg (rC c) (e6.trans (congrArg (rC w) (List.eq_nil_of_length_eq_zero n))))))))))))));subst e7;have f:∀x∈[l,i,g,e,d,c,w],rG (x:Nat):=λx u=>⟨gV,by have:=v x u;exact o6 this⟩;refine⟨λj=>((a::[l,i,g,e,d,c,w]:List Nat)[j]?.getD 0),rfl,λj y=>?_,by exact aw.mpr (dK [(av,zn 20)] (av,zn 20) rt m)⟩
 induction j using Nat.casesOn with
 |zero=>exact⟨gV,by exact aw.mpr (dK [(av,zn 20)] (av,zn 18446744073709551615) rt m)⟩
 |succ j=>
  have b:=Nat.lt_of_succ_lt_succ y;have:=f _ (fP b);show rG ((([l,i,g,e,d,c,w]:List Nat)[j]?.getD 0:Nat):Int);erw[aj (bx b),<-this]
theorem L_(l:List Addr)(k:Nat):cut (aT l) none (some (k:Int))=aT (l.take k):=by
 unfold cut aT;dsimp only;rewrite[aM];erw[aj jC];rfl
section
variable{G:Hp}
theorem aaJ(R:Rd af w K)(C:Cells H g)(cl:Claim H g)(P:gF H g pl ts)(N:wG H g (a0,l.map λx:Nat=>V.int (x:Int)))(l0:l≠[])(lz:l.length<=24)(lx:∀x∈l,x<1000000)(r1:ρ 1=some (.ref a0))(r2:ρ 2=some (.int (hd:Int)))(r3:ρ 3=some (.ref pl))(hh:hd<2^30)(E:aB 11 n=true)(q:∀t,Q (.bool true) t):bN af w K aH n Rp ρ H (dF Q) (cG X):=by
 have Rl:hd<2^39:=b_ hh (dc rfl);have jl:=P.len;have DO:(aT (ts.map (·.p))).length<=100000:=by rw[bG,aq];exact dM jl rfl
 unfold Rp;erw[Zg,<-ZU r1 rfl ?_,tw R (i:=6) N.h l0 (by exact dM lz rfl) lx (dc rfl) (lv E rfl),(y hy)];have tX:y<2^39:=b_ hy (dc rfl);erw[Zg,ZC,eR rfl,Za,Zv rfl,Zv rfl,<-Zc r2 ?_,dT (y:=5) rfl (iQ Rl).big rfl,dI (y:=21) rfl,Zb,(c1 hc1)];have x1:Ext H (upd H c1 (.list [.int ((hd / 5%21:Nat):Int)])):=Ext.fresh Ext.refl hc1;have f1:(upd H c1 (.list [.int ((hd / 5%21:Nat):Int)])) c1=some (.list [.int ((hd / 5%21:Nat):Int)]):=us;generalize upd H c1 (.list [.int ((hd / 5%21:Nat):Int)])=H1 at x1 f1;erw[Zai,ZA,<-⟨7,rfl,by decide,by decide,?_⟩,aj (show(7:Int)=((7:Nat):Int) from rfl)];rewrite[vj];refine mI (λB cL t=>t=H1/\∃done ws,done++B=nC 7/\cL=ws.map (λx:Nat=>V.int (x:Int))/\ws.length=done.length/\∀x∈ws,x<2^64) _ [] ⟨rfl,[],[],rfl,rfl,rfl,λ_ h=>nomatch h⟩ (λcL t=>gr λe=>(f9 · λdone ws e1 e2 e3 e4=>?_)) λv B cL t=>gr λe=>(f9 · λdone ws e1 e2 e3 e4 G' g1=>?_)
 ·subst e;subst e2;intro c2 Bf;have w7:ws.length=7:=by refine' aj e3 ?_;refine' c_ (bb done) ?_;refine' aj e1 ?_;rfl
  have x2:Ext t (upd t c2 (.list (ws.map λx:Nat=>V.int (x:Int)))):=Ext.fresh Ext.refl Bf;have f2:(upd t c2 (.list (ws.map λx:Nat=>V.int (x:Int)))) c2=some (.list (ws.map λx:Nat=>V.int (x:Int))):=us;generalize upd t c2 (.list (ws.map λx:Nat=>V.int (x:Int)))=H2 at x2 f2;erw[Dk (x2 _ _ f1) f2 (by rewrite[aq];erw[aj w7];show 1+7<=100000;decide),(c Hn),cY (Y2 w7 (hd / 5%21) e4 (by have:hd / 5%21<21:=kv;exact dK [(zs av,zn 21)] (av,zn 20) rt kv)),(h eh hi zx)];have e5:([V.int ((hd / 5%21:Nat):Int)]++ws.map λx:Nat=>V.int (x:Int))=hl h:=eh;erw[aj e5];have QT:=x1.trans x2;have C2:=C.ext QT;have Nm:=cl.ext QT;erw[dY (al (n:=22) (mo:=.list (hl h)) C2 Nm Hn (dc rfl)),(C3 Oc k3 f)];have L:(upd H2 c (.list (hl h))) c=some (.list (hl h)):=us;have kx:=(bJ.ext QT).trans k3;generalize upd H2 c (.list (hl h))=H3 at C3 Oc L kx;clear k3;generalize g.set c 22=g3 at C3 Oc kx f;have h8:(hl h).length<=100000:=dc rfl;erw[Zg,ZQ,Za,Zf rfl rfl,ax (v:=.int (h 0)) L h8 rfl,Za,Zf rfl rfl,ax (v:=.int (h 1)) L h8 rfl,Za,Zf rfl rfl,ax (v:=.int (h 2)) L h8 rfl,Za,Zf rfl rfl,ax (v:=.int (h 3)) L h8 rfl,Zb,(m hm),<-nY R hm (lv E rfl) λD Pk nme=>⟨rfl,?_⟩];have Y:Ext H3 (upd H3 D (.list [])):=Ext.fresh Ext.refl Pk;have U:(upd H3 D (.list [])) m=none:=(dr _ _ nme).trans hm;generalize upd H3 D (.list [])=H4 at Y U;generalize hh0:(λj=>match j with|0=>h 0|1=>h 1|2=>h 2|3=>h 3|_=>0:Nat->Int)=h0;have e0:∀j,j<4->h0 j=h j:=λj hj=>by
   erw[c_ hh0,<-W_ hj ?_ ?_ ?_ ?_]
   ·rfl
   ·rfl
   ·rfl
   ·rfl
  erw[dY (al (n:=21) (mo:=dE h0 D .none false []) (C3.ext Y) (Oc.ext Y) U (dc rfl)),(C5 J k5 rm)];have f5:(upd H4 m (dE h0 D .none false [])) m=some (dE h0 D .none false []):=us;have O:=(bJ.ext Y).trans k5;clear k5;generalize upd H4 m (dE h0 D .none false [])=H5 at C5 J f5 O;generalize g3.set m 21=g5 at C5 J O rm;have ru:g5.R c=22:=(O.r _ (by erw[aj f];decide)).trans f;have fu:=O.h _ _ (by erw[aj f];decide) L;have kz:=kx.trans O;have sb:∀{S:Nat->Prop},(¬S 0)->∀n,S n->n≠0:=λz n E e=>z (e▸E);have P5:=P.keep (kz.sub (sb (dc rfl)));have N5:=N.keep (kz.sub (sb (dc rfl)));have m4:y%4<4:=kv
  obtain ⟨k,k3,hk⟩:∃k:Nat,k<=3/\([V.int 2,.int 1,.int 3,.int 0])[y%4]?=some (.int (k:Int)):=by
   generalize y%4=i at m4;refine W_ m4 ?_ ?_ ?_ ?_
   ·exact⟨2,by decide,rfl⟩
   ·exact⟨1,by decide,rfl⟩
   ·exact⟨3,by decide,rfl⟩
   ·exact⟨0,by decide,rfl⟩
  erw[Zg,eR rfl,Zr rfl,Zr rfl,Za,Zah rfl,Zs rfl rfl,dI (y:=2) rfl];have br:∀{a b:Int} {G:Bool->Prop} {H:Hp},(∀u:Bool,G u)->jH .Eq (.int a) (.int b) H G:=λh=>cq (λ_=>h true) λ_=>h false;erw[br,(d),Za,Z9,<-Zc r3 ?_,ZW,Z7,Z5,i7 rfl,Zaf rfl rfl rfl rfl,Zs rfl rfl,dI (y:=4) rfl,NW (dc rfl) gV (by rw[aM];exact hk),ie,pQ P5.h (by trivial) ⟨gV,by exact aU.mpr (dK [(av,zn 3)] (zs av,zn ((2^60))) rt k3)⟩ DO,(o YZ)];rewrite[L_];erw[c_ jC,dY (al (n:=23) (mo:=.list (aT ((ts.take k).map (·.p)))) C5 J YZ (dc rfl)),(C6 I k6 Jx)];have f6:(upd H5 o (.list (aT ((ts.take k).map (·.p))))) o=some (.list (aT ((ts.take k).map (·.p)))):=us;generalize upd H5 o (.list (aT ((ts.take k).map (·.p))))=H6 at C6 I f6 k6;generalize g5.set o 23=g6 at C6 I k6 Jx;erw[Zr rfl,Za,Zq,Za,Zs rfl rfl,dT (y:=9) rfl (iQ tX).big rfl,Zb,mv R (iQ (v9 tX 9)) (lv E rfl),(cj abG),Zb,(W Fe),dY (al (n:=20) (mo:=.list [.ref m,.ref c,.bool d,.ref o,.none,.bytes cj]) C6 I Fe (dc rfl)),(C7 F T rg)];have f7:(upd H6 W (.list [.ref m,.ref c,.bool d,.ref o,.none,.bytes cj])) W=some (.list [.ref m,.ref c,.bool d,.ref o,.none,.bytes cj]):=us;generalize upd H6 W (.list [.ref m,.ref c,.bool d,.ref o,.none,.bytes cj])=H7 at C7 F f7 T;generalize g6.set W 20=g7 at C7 F T rg;have M:=k6.trans T;exact Xw R (A:=⟨W,m,c,o,D,ts.take k,none⟩) rfl C7 F (P5.keep (M.sub (sb (dc rfl)))) (N5.keep (M.sub (sb (dc rfl)))) ⟨hi,zx,by erw[aj dP,<-aF (g_ _ _) jl],(λs hs=>nomatch hs),by exact dM abG rfl⟩ (λz hz=>mB hz)
   f7 (M.h _ _ (by erw[aj rm];decide) f5) e0 (M.h _ _ (by erw[aj ru];decide) fu) (T.h _ _ (by erw[aj Jx];decide) f6) rg ((M.r _ (by erw[aj rm];decide)).trans rm) ((M.r _ (by erw[aj ru];decide)).trans ru) ((T.r _ (by erw[aj Jx];decide)).trans Jx) l0 lz lx r1 r2 r3 rfl rfl rfl rfl hy hh E q
 ·replace e:=e.symm;subst e;erw[aD (th e1),(eK l7)];subst eK;have p3:3^done.length<=3^6:=d3 (dc rfl) (by exact zw5 l7 rfl);have q3:1<=3^done.length:=Nat.one_le_pow _ _ (dc rfl);have z3:(3:Nat)^6=729:=dc rfl;erw[Zq,Za,ZI rfl,Zs rfl rfl,<-⟨gV,by exact aw.mpr (dK [(zs av,zn 7)] (av,zn 1000) rt l7),by decide,?_⟩];rw[abc];erw[dT (y:=3^done.length) (d4.mpr q3) (iQ tX).big (d4.mpr (aF p3 (dc rfl))),Zb,jf R (iQ (v9 tX _)) (lv E rfl),(v hv)];exact g1 _ _ trivial ⟨rfl,done++[.int (done.length:Int)],ws++[v],by erw[c_ e1];rewrite[aC];rfl,by erw[aj e2,aj aY];rfl,by erw[aj ah,aj ah,aj e3];rfl,λx hx=>by
   rcases cC.mp hx with h|h
   ·exact e4 x h
   ·erw[aj (aR.mp h)];exact hv⟩
end
def Ku:List S:=.forR 4 none (.sub (.tup [(ek 3),(ek 1),(ek 2),(ek 4),(ek 5)]) (.bin .Mod dC (ek 5))) [.bq 5 (bD 743 [bA,(.bin .Add (ek 1) fG)]),.bq 6 (.lst [(bD 750 [fJ]),(bD 750 [(.bin .FloorDiv fJ (ek 22))]),(.bin .Mult (.bin .Mod (.bin .FloorDiv fJ (ek 3)) (ek 2)) (ek 2)),(bD 764 [(.bin .FloorDiv fJ (ek 5))])]),.expr (.bp dQ 0 [(.lst [(.call (.cls 407 376) [(bw jW 0),(bw jW 1),(bw jW 2),(bw jW 3)]),jW])])]::Rp
def Lo:List S:=.bq 2 (bD 743 [bA,(ek 0)]):: .bq 3 (.lst [])::Ku
def WU:List S:=.bq 1 (.comp (.bin .Mod (.loc 1000) (ek 999983)) .JT none):: .dp (.cmp .Eq (.call .len [bA]) (ek 0)) [.bq 1 (.lst [(ek 0)])] []::Lo
theorem Tg:HJ=WU:=rfl
section
variable{G:Hp}
theorem XW(R:Rd af w K)(C:Cells H g)(cl:Claim H g)(N:wG H g (a0,l.map λx:Nat=>V.int (x:Int)))(S:H pl=some (.list []))(D:g.R pl=6)(l0:l≠[])(lz:l.length<=24)(lx:∀x∈l,x<1000000)(G:ρ 1=some (.ref a0))(F:ρ 2=some (.int (hd:Int)))(E:ρ 3=some (.ref pl))(hh:hd<2^30)(I:aB 11 n=true)(q:∀a,Q (.bool true) a):bN af w K aH n Ku ρ H (dF Q) (cG X):=by
 have m5:hd%5<5:=kv
 obtain ⟨k,k1,k5,hk⟩:∃k:Nat,1<=k/\k<=5/\([V.int 3,.int 1,.int 2,.int 4,.int 5])[hd%5]?=some (.int (k:Int)):=by
  generalize hd%5=i at m5;refine nb5 m5 ?_ ?_ ?_ ?_ ?_
  ·exact⟨3,by decide,by decide,rfl⟩
  ·exact⟨1,by decide,by decide,rfl⟩
  ·exact⟨2,by decide,by decide,rfl⟩
  ·exact⟨4,by decide,by decide,rfl⟩
  ·exact⟨5,by decide,by decide,rfl⟩
 unfold Ku;erw[oH,Z5,i7 rfl,Zr rfl,Zaf rfl rfl rfl rfl,Zv rfl,<-Zc F ?_,dI (y:=5) rfl,NW (dc rfl) gV (by rw[aM];exact hk),ie,<-uA (k:=k) (by exact dM k5 rfl) (λs ρ a=>∃(done:List V)(c:Gh)(ts:List Tr),done++s=nC k/\Cells a c/\Claim a c/\wG a c (a0,l.map λx:Nat=>V.int (x:Int))/\a pl=some (.list (aT (ts.map λz:Tr=>z.p)))/\c.R pl=6/\(∀z∈ts,tZ a c z)/\ts.length=done.length/\ρ 1=some (.ref a0)/\ρ 2=some (.int (hd:Int))/\ρ 3=some (.ref pl)) ?_ (λρ U=>(It · λdone g2 ts e1 C cl N S D tr A G F E=>?_)) λv s ρ a ih=>(It · λdone c ts e1 C cl N S D tr A G F E=>?_)]
 ·exact⟨[],g,[],rfl,C,cl,N,S,D,(λ_ h=>nomatch h),rfl,G,F,E⟩
 ·have:done.length=k:=by
   erw[c_ (bb done),aj e1];unfold nC;simp
  exact aaJ R C cl ⟨S,λe=>by rw[e] at A;simp at A;exact FQ [(av,zn 0),(zn 1,aX),(aX,av)] rt (aa (ao A)) k1 (aa (ao this)),by exact gP [(av,aX),(aX,bT),(bT,zn 5)] (av,zn 5) rt (aa A) (aa this) k5,tr,D⟩ N l0 lz lx G F E hh I q
 ·erw[aD (th e1),(eK T)];subst eK;have DG:(aT (ts.map λz:Tr=>z.p)).length<=100000:=by rw[bG,aq];exact gP [(zs av,aX),(aX,zn 5),(bT,av)] (bT,zn 100000) rt T k5 (aa A)
  erw[Zg,Zq,<-Zr G ?_,Za,Zs rfl rfl,Zw,Zb,aj (show(1:Int)+(done.length:Int)=((1+done.length:Nat):Int) by exact Na),tw R N.h l0 (by exact dM lz rfl) lx (fp [(zs av,aX),(aX,zn 5)] (zp (zn 1) av,zn 1000) rt T k5) (lv I rfl),(y hy)];have B:y<2^39:=b_ hy (dc rfl);erw[Zg,eR rfl,Za,Zz rfl,jf R (iQ B) (lv I rfl),(f JV),Za,Zq,Za,Zs rfl rfl,dT (y:=22) rfl (iQ B).big rfl,Zb,jf R (iQ (v9 B 22)) (lv I rfl),(d JY),Za,Zv rfl,Zv rfl,Zs rfl rfl,dT (y:=3) rfl (iQ B).big rfl,dI (y:=2) rfl];have m2:y / 3%2<2:=kv;erw[<-⟨dv (JR m2 rfl),dv (dc rfl),?_⟩,Za,Zq,Za,Zs rfl rfl,dT (y:=5) rfl (iQ B).big rfl,Zb,mv R (iQ (v9 B 5)) (lv I rfl),(b hb),Zb,(r hr)];have gx:(⟨f,d,((y / 3%2:Nat):Int)*2,b⟩:En).Good:=⟨⟨dv (JR JV rfl),dv (JR JY rfl),dv (JR (m:=4) (Nat.mul_lt_mul_of_pos_right m2 (dc rfl)) rfl),by exact dM hb rfl⟩,⟨⟨gV,by exact o6 JV⟩,⟨gV,by exact o6 JY⟩,⟨by exact VT,by exact Yq⟩⟩⟩;show bN af w K aH n _ _ (upd a r (.list (⟨f,d,((y / 3%2:Nat):Int)*2,b⟩:En).vs)) _ _;have u:(upd a r (.list (⟨f,d,((y / 3%2:Nat):Int)*2,b⟩:En).vs)) r=some (.list (⟨f,d,((y / 3%2:Nat):Int)*2,b⟩:En).vs):=us;have M:Ext a (upd a r (.list (⟨f,d,((y / 3%2:Nat):Int)*2,b⟩:En).vs)):=Ext.fresh Ext.refl hr;generalize upd a r (.list (⟨f,d,((y / 3%2:Nat):Int)*2,b⟩:En).vs)=H1 at M u;have h4:(⟨f,d,((y / 3%2:Nat):Int)*2,b⟩:En).vs.length<=100000:=dc rfl;have U_:=M _ _ S;erw[Zk,Zm,<-Zc E ?_,wM U_ rfl,Za,eR rfl,Za,ZQ,Za,Zf rfl rfl,ax (v:=.int f) u h4 rfl,Za,Zf rfl rfl,ax (v:=.int d) u h4 rfl,Za,Zf rfl rfl,ax u h4 rfl,Za,Zf rfl rfl,ax u h4 rfl,Zb,(e he),<-Cs R he (lv I rfl) ⟨rfl,?_⟩];generalize (⟨f,d,((y / 3%2:Nat):Int)*2,b⟩:En)=x at u gx h4;have f2:(upd H1 e x.o) e=some x.o:=us;have L:Ext H1 (upd H1 e x.o):=Ext.fresh Ext.refl he;generalize upd H1 e x.o=U at L f2;have Xj:=L _ _ U_;erw[ZF rfl,(p P)];have f3:(upd U p (.list [.ref e,.ref r])) p=some (.list [.ref e,.ref r]):=us;have J:Ext U (upd U p (.list [.ref e,.ref r])):=Ext.fresh Ext.refl P;generalize upd U p (.list [.ref e,.ref r])=H3 at J f3;have Qk:=J _ _ Xj;have Y:=(M.trans L).trans J;have fz:Fz c ⟨p,e,r⟩:=⟨cl.fresh (aI (M.trans L) P),cl.fresh (aI M he),cl.fresh hr⟩;have pr:Pr H3 p e r x:=⟨f3,J _ _ f2,J _ _ (L _ _ u)⟩;have W:bJ (λn=>n≠0) a c H3 (c.twin ⟨p,e,r⟩ x):=.qO fz Y (λh=>h rfl);have C3:=C.twin fz Y pr gx;have Oc:=cl.twin (t:=⟨p,e,r⟩) (x:=x) Y pr;have t3:=zv (g:=c) (t':=⟨p,e,r⟩) (x:=x) pr;generalize c.twin ⟨p,e,r⟩ x=g3 at W C3 Oc t3;have j:g3.R pl=6:=(W.r _ (by erw[aj D];decide)).trans D;have em:aT (ts.map λz:Tr=>z.p)++[.ref p]=aT ((ts++[(⟨p,e,r⟩:Tr)]).map λz:Tr=>z.p):=by unfold aT;refine' aj aY ?_;refine' aj aY ?_;rfl
  erw[Zb,qV Qk (by assumption),Ze,aj em];have O:∀z,tZ H3 g3 z->tZ (upd H3 pl (.list (aT ((ts++[(⟨p,e,r⟩:Tr)]).map λz:Tr=>z.p)))) g3 z:=λz hz=>hz.off (by erw[aj j];decide);exact⟨trivial,ih _ _ ⟨done++[.int (done.length:Int)],g3,ts++[⟨p,e,r⟩],by erw[c_ e1];rewrite[aC];rfl,C3.off (by erw[aj j];decide),Oc.upd,(N.keep (W.sub λn h=>by exact TF h rfl)).keep (.upd (by erw[aj j];decide)),us,j,λz hz=>by
   rcases cC.mp hz with h|h
   ·exact O z ((tr z h).keep W (dc rfl) (dc rfl))
   ·erw[aj (aR.mp h)];exact O _ t3,by refine' aj ah ?_;refine' aj ah ?_;refine' aj A ?_;rfl,G,F,E⟩⟩
end
section
variable{G:Hp}
theorem Nv:(FR K).length<=24:=by
 unfold FR;cases K.getLast? with
 |none=>exact ia _
 |some p=>
  show cF (match p.2.data with| .seq v _=>_|_=>_)<=24;generalize p.2.data=d
  induction d using Data.casesOn<;>first|exact ia _|(refine' aj (aq _) ?_;exact List.length_take_le _ _)
theorem Q0(R:Rd af w K)(h:H a0=some (.list (l.map λx:Nat=>V.int (x:Int))))(l0:l≠[])(E:l.length<=24)(I:∀x∈l,x<1000000)(z:ρ 1=some (.ref a0))(O:aB 11 n=true)(q:∀U,Q (.bool true) U):bN af w K aH n Lo ρ H (dF Q) (cG X):=by
 let g0:Gh:=⟨λa=>if a=a0 then 14 else 0,λa=>a,λ_=>⟨0,0,0,[]⟩⟩
 have B:∀a,g0.R a=14\/g0.R a=0:=λa=>by
  show(if a=a0 then 14 else 0)=14\/(if a=a0 then 14 else 0)=0
  split
  ·exact .inl rfl
  ·exact .inr rfl
 have i:g0.R a0=14:=if_pos rfl;have C:Cells H g0:=⟨λe b=>by have:=B e;exact⟨b.elim (λf=>this.elim (λm=>(cH [(av,zn 1),(zn 14,av)] rt (aa f) (aa (ao m))).elim) (λm=>(cH [(zn 1,av),(av,zn 0)] rt (aa (ao f)) (aa m)).elim)) (λf=>this.elim (λv=>(cH [(av,zn 4),(zn 14,av)] rt (aa f) (aa (ao v))).elim) (λv=>(cH [(zn 4,av),(av,zn 0)] rt (aa (ao f)) (aa v)).elim)),⟨b.elim (λD=>this.elim (λt=>(cH [(av,zn 1),(zn 14,av)] rt (aa D) (aa (ao t))).elim) (λt=>(cH [(zn 1,av),(av,zn 0)] rt (aa (ao D)) (aa t)).elim)) (λD=>this.elim (λu=>(cH [(av,zn 4),(zn 14,av)] rt (aa D) (aa (ao u))).elim) (λu=>(cH [(zn 4,av),(av,zn 0)] rt (aa (ao D)) (aa u)).elim)),⟨b.elim (λA=>this.elim (λG=>aS ((cH [(av,zn 1),(zn 14,av)] rt (aa A) (aa (ao G))).elim) ((cH [(av,zn 1),(zn 14,av)] rt (aa A) (aa (ao G))).elim)) (λG=>aS ((cH [(zn 1,av),(av,zn 0)] rt (aa (ao A)) (aa G)).elim) ((cH [(zn 1,av),(av,zn 0)] rt (aa (ao A)) (aa G)).elim))) (λA=>this.elim (λd=>aS ((cH [(av,zn 4),(zn 14,av)] rt (aa A) (aa (ao d))).elim) ((cH [(av,zn 4),(zn 14,av)] rt (aa A) (aa (ao d))).elim)) (λd=>aS ((cH [(zn 4,av),(av,zn 0)] rt (aa (ao A)) (aa d)).elim) ((cH [(zn 4,av),(av,zn 0)] rt (aa (ao A)) (aa d)).elim))),⟨b.elim (λF=>this.elim (λs=>(cH [(av,zn 1),(zn 14,av)] rt (aa F) (aa (ao s))).elim) (λs=>(cH [(zn 1,av),(av,zn 0)] rt (aa (ao F)) (aa s)).elim)) (λF=>this.elim (λo=>(cH [(av,zn 4),(zn 14,av)] rt (aa F) (aa (ao o))).elim) (λo=>(cH [(zn 4,av),(av,zn 0)] rt (aa (ao F)) (aa o)).elim)),b.elim (λc=>this.elim (λk=>(cH [(av,zn 1),(zn 14,av)] rt (aa c) (aa (ao k))).elim) (λk=>(cH [(zn 1,av),(av,zn 0)] rt (aa (ao c)) (aa k)).elim)) (λc=>this.elim (λj=>(cH [(av,zn 4),(zn 14,av)] rt (aa c) (aa (ao j))).elim) (λj=>(cH [(zn 4,av),(av,zn 0)] rt (aa (ao c)) (aa j)).elim))⟩⟩⟩⟩,λp N=>by have:=B p;exact this.elim (λL=>(cH [(av,zn 3),(zn 14,av)] rt (aa N) (aa (ao L))).elim) (λL=>(cH [(zn 3,av),(av,zn 0)] rt (aa (ao N)) (aa L)).elim)⟩;have cl:Claim H g0:=⟨λa T M=>T (if_neg λe=>by rw[e,h] at M;injection M)⟩;generalize g0=g at i C cl;unfold Lo;erw[Zg,<-ZU z rfl ?_,tw R h l0 (dM E rfl) I (dc rfl) (lv O rfl),(y S),Zg,eR rfl,Zb,(pl DG),dY (al (n:=6) (mo:=.list []) C cl DG (dc rfl)),(C1 W J P)];have Y:g.R a0≠0:=by refine' aj i ?_;decide
 exact XW R C1 W ⟨J.h _ _ Y h,(J.r _ Y).trans i⟩ us P l0 E I z rfl rfl S O q
theorem TY(R:Rd af w K)(a:aB 12 n=true)(q:∀y,Q (.bool true) y):aZ af w K n 994 [.ref (Ke K)] H Q X:=by
 erw[R.law.to rfl a,(n a),aj Tg];unfold WU;erw[Zg,ZK,<-zj rfl ⟨rfl,λc A=>?_⟩];generalize hl:FR K=l;have g:l.length<=24:=by
  erw[c_ hl,<-Nv]
 erw[aj (show l.map V.int=iv l from rfl)];have h1:(upd H c (.list (iv l))) c=some (.list (iv l)):=us;generalize upd H c (.list (iv l))=H1 at h1;have i:∀x:Int,((x.fmod 999983).toNat)=x.fmod 999983/\(x.fmod 999983).toNat<1000000:=λx=>by
  have e:=DB x (b:=999983) (dc rfl);have u:=Int.emod_nonneg x (b:=999983) (dc rfl);have t:=Int.emod_lt_of_pos x (b:=999983) (dc rfl);have h0:0<=x.fmod 999983:=by rw[e];exact u
  exact⟨gT h0,(zy h0).mpr (by rw[e];exact Int.lt_trans t (dc rfl))⟩
 refine comp_map (λv=>match v with| .int x=>.int (x.fmod 999983)|v=>v) h1 (by unfold iv;rw[aq];exact dM g rfl) (λv m G p=>?_) λd hd=>?_
 ·erw[ay (cK.mp m),(x _ s)];subst s;erw[Zs rfl rfl,<-⟨by decide,p⟩]
 have r:(iv l).map (λv=>match v with| .int x=>.int (x.fmod 999983)|v=>v)=(l.map λx=>(x.fmod 999983).toNat).map λx:Nat=>V.int x:=by
  unfold iv;erw[aj eu,aj eu];exact dR λx _=>by show V.int (x.fmod 999983)=V.int ((x.fmod 999983).toNat:Int);refine' aj ((i x).1) ?_;rfl
 erw[aj r];have j:∀x∈l.map λx:Int=>(x.fmod 999983).toNat,x<1000000:=λx f=>by
  erw[ay (cK.mp f),(z _ k)];subst k;exact(i z).2
 have h:(l.map λx:Int=>(x.fmod 999983).toNat).length<=24:=by rw[aq];exact g
 generalize (l.map λx:Int=>(x.fmod 999983).toNat)=L at j h;have h2:(upd H1 d (.list (L.map λx:Nat=>V.int (x:Int)))) d=some (.list (L.map λx:Nat=>V.int (x:Int))):=us;generalize upd H1 d (.list (L.map λx:Nat=>V.int x))=H2 at h2;erw[Zh,Zy rfl,ZG rfl,dW h2 (by rw[aq];exact dM h rfl)];rw[aq];refine cq (λe0=>?_) (λe0=>?_)
 ·erw[Zp,Zg,eR rfl,ZF rfl,(B o),Ze,Zd,<-Q0 R (l:=[0]) us (λe=>nomatch e) (dc rfl) (λx f=>by erw[aj (aR.mp f)];decide) rfl a q]
 ·erw[Zi,Ze,Zd,<-Q0 R h2 (λe=>e0 (aj e rfl)) h j rfl a q]
end
end Mine
section
open PySem PySem.W PyProof.Rows PySem.Challenge
namespace Mine.HD
section
noncomputable abbrev pw:=PySem.Challenge.pw_xm0855_01
def JA:List jD:=behindTheImports pw
def st(i:Nat):jD:=JA.getD i (.Pass default)
def sm(i j:Nat):jD:=match st i with
 | .ClassDef _ _ _ b .. =>b.getD j (.Pass default)
 |_=>.Pass default
noncomputable def nm:jD->Str
 | .FunctionDef n .. =>n
 |_=>Hg
noncomputable def fd(s:jD)(q:Str)(g:Addr)(d m c:Value):FuncData:=match s with
 | .FunctionDef n a b _ _ _ sc _ _ _=>⟨n,q,a,.stmts b,sc,g,[],d,.none,.none,m,none,c,.none,0⟩
 |_=>default
noncomputable abbrev R(a:Nat):Value:=.ref a
noncomputable abbrev S(x:Str)(t:Nat):Value:=.str x t
noncomputable abbrev I(n:Int):Value:=.int n 0
noncomputable abbrev E(P:bg)(x:Str)(t:Nat)(v:Value):dz:=⟨Bw P x,.str x t,v⟩
noncomputable abbrev T(l:List Value):Obj:=⟨.type "tuple",none,.seq ⟨l⟩ 0,#[]⟩
noncomputable abbrev Fd(l:List Value):Obj:=⟨.none,none,.fields ⟨l⟩,#[]⟩
noncomputable abbrev Fl(c:Value)(l:List Value):Obj:=⟨c,none,.fields ⟨l⟩,#[]⟩
abbrev Cd(l:List Value):Obj:=Fl (.type "code") l
noncomputable abbrev Fr(l:List (Option Value)):Obj:=⟨.type "frame",none,.plain,⟨l⟩⟩
noncomputable abbrev Dc(l:List dz)(n:Nat):Obj:=⟨.type "dict",none,.dict ⟨l⟩ n,#[]⟩
noncomputable def toks:Nat->List Str->List Value
 |_,[]=>[]
 |t,x::r=>.str x t::toks (t+1) r
noncomputable def locs:List (Str×dA)->List Str
 |[]=>[]
 |(x,.local)::r=>x::locs r
 |_::r=>locs r
def cdO(n t:Nat)(s:jD)(q:Str)(a5:Nat)(a3 a4:Value)(k:Nat):Obj:=match s with
 | .FunctionDef x a _ _ _ _ _ _ _ p=>Cd [S x t,S q (t+1),S "/claim/cut.py" (t+2),I p.line,I a.args.length,I 0,I 0,I 3,R n,.bool true,I 181,R (n+1),.none,a3,a4,R a5,I (t+3+k:Nat),I p.line,S "/claim/cut.py" (t+4+k)]
 |_=>default
def vrs:jD->List Str
 | .FunctionDef _ _ _ _ _ _ sc _ _ _=>locs sc.names
 |_=>[]
def F7(n t:Nat)(s:jD)(q:Str)(d m:Value):List (Nat×Obj):=
 [(n,T []),(n+1,Fd []),(n+2,T (toks (t+3) (vrs s))),(n+3,T []),(n+4,⟨.none,none,.func (fd s q 0 .none .none .none),#[]⟩),
  (n+5,cdO n t s q (n+4) (R (n+2)) (R (n+3)) (vrs s).length),(n+6,⟨.type "function",none,.func (fd s q 3 d m (R (n+5))),#[]⟩)]
def F5(n t:Nat)(s:jD)(q:Str)(d m:Value):List (Nat×Obj):=
 [(n,T []),(n+1,Fd []),(n+2,⟨.none,none,.func (fd s q 0 .none .none .none),#[]⟩),
  (n+3,cdO n t s q (n+2) .none .none 0),(n+4,⟨.type "function",none,.func (fd s q 3 d m (R (n+3))),#[]⟩)]
noncomputable def up:List (Nat×Obj)->BT->BT
 |[],t=>t
 |(a,o)::r,t=>up r (t.ins a o)
def zl(l:List Value)(o:Obj):Obj:=match o.data with
 | .fields ⟨v⟩=>Fd (v++l)
 |_=>o
def zq(m:Value)(l:List dz)(n:Nat)(o:Obj):Obj:=match o.data with
 | .dict ⟨e::r⟩ _=>Dc (⟨e.hash,e.key,m⟩::r++l) n
 |_=>o
abbrev m0:Value:=(S "__main__" 164)
abbrev m1:Value:=(S "raftkeep.errors" 194)
abbrev m2:Value:=(S "raftkeep.octets" 344)
abbrev m3:Value:=(S "raftkeep.messages" 613)
abbrev m4:Value:=(S "raftkeep.commands" 978)
abbrev m5:Value:=(S "raftkeep.raftlog" 1067)
abbrev m6:Value:=(S "law_xm0855_01" 1176)
def pz:Obj:=Fl (.type "builtin_function_or_method") [.builtin "type.__prepare__",.type "type"]
def N7(c:Nat):Obj:=Fl (.type "builtin_function_or_method") [.builtin "object.__init_subclass__",R c]
def su(c:Nat):Obj:=Fl (.type "super") [R c,R c,R c]
def ft(k:Int)(l:List (Int×Nat)):List Value:=l.foldr (λx r=>I x.1::I k::R x.2::r) []
def hr(P:bg)(u:Nat)(M:Value)(l:Int)(e:List dz):List dz:=[E P "__module__" (u+7) M,E P "__firstlineno__" (u+11) (.int l (u+10))]++e
def xc(c:Nat)(x:Str)(u:Nat)(p q b:List Value):Obj:=⟨.type "type",none,.cls ⟨x,p,R c::(q++[.type "Exception",.type "BaseException",.type "object"]),c-1,x,true,[],b,false,none,false⟩,⟨[some (R (c-9)),none,some (S x u),some (S x (u+8)),some (.builtin "Exception.__new__"),some (.bool true)]⟩⟩
def K1(P:bg)(n u:Nat)(M:Value)(x:Str)(l:Int)(b:List Value)(e:List dz)(f:List Value)(k:Nat):List (Nat×Obj):=
 [(n,T b),(n+1,pz),(n+2,Dc (E P "__module__" (u+7) M::E P "__qualname__" (u+9) (S x (u+8))::E P "__firstlineno__" (u+11) (.int l (u+10))::e) k),(n+3,T []),(n+4,Fd f),
  (n+5,Cd [S x (u+2),S x (u+3),S "/claim/cut.py" (u+4),I l,I 0,I 0,I 0,I 0,R (n+3),.bool false,I 181,R (n+4),.none,.none,.none,.none,I (u+5:Nat),I l,S "/claim/cut.py" (u+6)]),(n+6,Fr [some (R (n+5)),some (R 3),some (R (n+2)),none,some M,none,some (R 0)])]
def gs(x:Str)(t c:Nat)(a b:Value):Obj:=Fl (.type "getset_descriptor") [S x t,R c,a,b]
def K2(P:bg)(n u:Nat)(M:Value)(x:Str)(l:Int)(s:List Value)(e:List dz)(d k:Nat):List (Nat×Obj):=
 [(n,T s),(n+1,Dc (hr P u M l e++[E P "__dict__" d (R (n+3)),E P "__weakref__" (d+2) (R (n+4)),E P "__doc__" (d+3) .none]) k),(n+2,⟨.type "type",none,.cls ⟨x,[.type "object"],[R (n+2),.type "object"],n+1,x,true,[],[],false,none,false⟩,⟨[none,none,some (S x u),some (S x (u+8)),some (.builtin "object.__new__"),some (.bool true)]⟩⟩),
  (n+3,gs "__dict__" (d-1) (n+2) (.builtin "function.__dict__") (.builtin "function.__dict__#set")),(n+4,gs "__weakref__" (d+1) (n+2) (.builtin "ExceptionGroup.__weakref__") .none),(n+5,su (n+2)),(n+6,N7 (n+2))]
def G7(n t k:Nat)(m:Value):List (Nat×Obj):=F7 n t (st k) (nm (st k)) .none m
def G5(n t k:Nat)(m:Value):List (Nat×Obj):=F5 n t (st k) (nm (st k)) .none m
def M7(n t a b:Nat)(x:Str)(m:Value):List (Nat×Obj):=F7 n t (sm a b) x .none m
def M5(n t a b:Nat)(x:Str)(m:Value):List (Nat×Obj):=F5 n t (sm a b) x .none m
def t0(P:bg):BT:=up [(0,boot_o_0 P),(1,boot_o_1 P),(2,boot_o_2 P),(3,boot_o_3 P),(4,boot_o_4 P),(5,boot_o_5 P),(6,boot_o_6 P),(7,boot_o_7 P),(8,boot_o_8 P),(9,boot_o_9 P),(10,boot_o_10 P),(11,T []),(12,Fd []),(13,Cd [(S "<module>" 182),(S "<module>" 183),(S "/claim/cut.py" 184),(I 1),(I 0),(I 0),(I 0),(I 0),(R 11),(.bool false),(I 181),(R 12),.none,.none,.none,.none,(I 185),(I 1),(S "/claim/cut.py" 186)]),(14,Fr [some (R 13),some (R 3),some (R 3),none,some (S "__main__" 164),none,some (R 0)])] .nil
def e0(P:bg):List dz:=[E P "__static_attributes__" 208 (R 29)]
def l0(P:bg):List (Nat×Obj):=G7 15 187 0 m0++
 K1 P 22 196 m1 "KeepError" 5 [(.type "Exception")] (e0 P) [] 4++
 [(29,T []),(30,Dc (hr P 196 m1 5 (e0 P)++[E P "__weakref__" 210 (R 32),E P "__doc__" 211 .none]) 3),(31,xc 31 "KeepError" 196 [(.type "Exception")] [] []),(32,Fl (.type "getset_descriptor") [(S "__weakref__" 209),(R 31),(.builtin "ExceptionGroup.__weakref__"),.none]),(33,su 31),(34,N7 31)]
def t1(P:bg):BT:=((((up (l0 P) (t0 P)).set 2 (λ_=>⟨.none,none,.dict (List.toArray [E P "type.__subclasses__.Exception.0" 212 (I 31),E P "type.__subclasses__.Exception.n" 213 (I 1)]) 2,#[]⟩)).set 3 (zq m1 [E P "_wall" 193 (R 21),E P "KeepError" 215 (R 31)] 11)).set 12 (zl (ft 0 [(1,20),(5,27)])))
def e1(P:bg):List dz:=[E P "__static_attributes__" 228 (R 42)]
def l1(P:bg):List (Nat×Obj):=K1 P 35 216 m1 "StoreError" 7 [(R 31)] (e1 P) [] 4++
 [(42,T []),(43,Dc (hr P 216 m1 7 (e1 P)++[E P "__doc__" 229 .none]) 2),(44,xc 44 "StoreError" 216 [(R 31)] [(R 31)] []),(45,su 44),(46,N7 44)]
def t2(P:bg):BT:=((((up (l1 P) (t1 P)).set 3 (zq m1 [E P "StoreError" 231 (R 44)] 12)).set 12 (zl (ft 0 [(7,40)]))).set 31 (λ_=>xc 31 "KeepError" 196 [(.type "Exception")] [] [(R 44)]))
def e2(P:bg):List dz:=[E P "__static_attributes__" 244 (R 54)]
def l2(P:bg):List (Nat×Obj):=K1 P 47 232 m1 "Corrupt" 9 [(R 44)] (e2 P) [] 4++
 [(54,T []),(55,Dc (hr P 232 m1 9 (e2 P)++[E P "__doc__" 245 .none]) 2),(56,xc 56 "Corrupt" 232 [(R 44)] [(R 44),(R 31)] []),(57,su 56),(58,N7 56)]
def t3(P:bg):BT:=((((up (l2 P) (t2 P)).set 3 (zq m1 [E P "Corrupt" 247 (R 56)] 13)).set 12 (zl (ft 0 [(9,52)]))).set 44 (λ_=>xc 44 "StoreError" 216 [(R 31)] [(R 31)] [(R 56)]))
def e3(P:bg):List dz:=[E P "__static_attributes__" 260 (R 66)]
def l3(P:bg):List (Nat×Obj):=K1 P 59 248 m1 "ShortOctets" 11 [(R 56)] (e3 P) [] 4++
 [(66,T []),(67,Dc (hr P 248 m1 11 (e3 P)++[E P "__doc__" 261 .none]) 2),(68,xc 68 "ShortOctets" 248 [(R 56)] [(R 56),(R 44),(R 31)] []),(69,su 68),(70,N7 68)]
def t4(P:bg):BT:=((((up (l3 P) (t3 P)).set 3 (zq m1 [E P "ShortOctets" 263 (R 68)] 14)).set 12 (zl (ft 0 [(11,64)]))).set 56 (λ_=>xc 56 "Corrupt" 232 [(R 44)] [(R 44),(R 31)] [(R 68)]))
def e4(P:bg):List dz:=[E P "__static_attributes__" 276 (R 78)]
def l4(P:bg):List (Nat×Obj):=K1 P 71 264 m1 "BadOption" 13 [(R 44)] (e4 P) [] 4++
 [(78,T []),(79,Dc (hr P 264 m1 13 (e4 P)++[E P "__doc__" 277 .none]) 2),(80,xc 80 "BadOption" 264 [(R 44)] [(R 44),(R 31)] []),(81,su 80),(82,N7 80)]
def t5(P:bg):BT:=((((up (l4 P) (t4 P)).set 3 (zq m1 [E P "BadOption" 279 (R 80)] 15)).set 12 (zl (ft 0 [(13,76)]))).set 44 (λ_=>xc 44 "StoreError" 216 [(R 31)] [(R 31)] [(R 56),(R 80)]))
def e5(P:bg):List dz:=[E P "__static_attributes__" 292 (R 90)]
def l5(P:bg):List (Nat×Obj):=K1 P 83 280 m1 "RaftError" 15 [(R 31)] (e5 P) [] 4++
 [(90,T []),(91,Dc (hr P 280 m1 15 (e5 P)++[E P "__doc__" 293 .none]) 2),(92,xc 92 "RaftError" 280 [(R 31)] [(R 31)] []),(93,su 92),(94,N7 92)]
def t6(P:bg):BT:=((((up (l5 P) (t5 P)).set 3 (zq m1 [E P "RaftError" 295 (R 92)] 16)).set 12 (zl (ft 0 [(15,88)]))).set 31 (λ_=>xc 31 "KeepError" 196 [(.type "Exception")] [] [(R 44),(R 92)]))
def e6(P:bg):List dz:=[E P "__static_attributes__" 308 (R 102)]
def l6(P:bg):List (Nat×Obj):=K1 P 95 296 m1 "LogPanic" 17 [(R 92)] (e6 P) [] 4++
 [(102,T []),(103,Dc (hr P 296 m1 17 (e6 P)++[E P "__doc__" 309 .none]) 2),(104,xc 104 "LogPanic" 296 [(R 92)] [(R 92),(R 31)] []),(105,su 104),(106,N7 104)]
def t7(P:bg):BT:=((((up (l6 P) (t6 P)).set 3 (zq m1 [E P "LogPanic" 311 (R 104)] 17)).set 12 (zl (ft 0 [(17,100)]))).set 92 (λ_=>xc 92 "RaftError" 280 [(R 31)] [(R 31)] [(R 104)]))
def e7(P:bg):List dz:=[E P "__static_attributes__" 324 (R 114)]
def l7(P:bg):List (Nat×Obj):=K1 P 107 312 m1 "ServeError" 19 [(R 31)] (e7 P) [] 4++
 [(114,T []),(115,Dc (hr P 312 m1 19 (e7 P)++[E P "__doc__" 325 .none]) 2),(116,xc 116 "ServeError" 312 [(R 31)] [(R 31)] []),(117,su 116),(118,N7 116)]
def t8(P:bg):BT:=((((up (l7 P) (t7 P)).set 3 (zq m1 [E P "ServeError" 327 (R 116)] 18)).set 12 (zl (ft 0 [(19,112)]))).set 31 (λ_=>xc 31 "KeepError" 196 [(.type "Exception")] [] [(R 44),(R 92),(R 116)]))
def e8(P:bg):List dz:=[E P "__static_attributes__" 340 (R 126)]
def l8(P:bg):List (Nat×Obj):=K1 P 119 328 m1 "BadCommand" 21 [(R 116)] (e8 P) [] 4++
 [(126,T []),(127,Dc (hr P 328 m1 21 (e8 P)++[E P "__doc__" 341 .none]) 2),(128,xc 128 "BadCommand" 328 [(R 116)] [(R 116),(R 31)] []),(129,su 128),(130,N7 128)]++
 G7 131 350 14 m2++
 G7 138 359 15 m2++
 G7 145 373 16 m2++
 G7 152 380 17 m2
def t9(P:bg):BT:=((((up (l8 P) (t8 P)).set 3 (zq m2 [E P "BadCommand" 343 (R 128),E P "MAX_32" 347 (.int 4294967295 346),E P "MAX_64" 349 (.int 18446744073709551615 348),E P "write_groups" 358 (R 137),E P "read_groups" 372 (R 144),E P "put_varint" 379 (R 151),E P "read_varint" 387 (R 158)] 25)).set 12 (zl (ft 0 [(21,124),(26,136),(35,143),(52,150),(56,157)]))).set 116 (λ_=>xc 116 "ServeError" 312 [(R 31)] [(R 31)] [(R 128)]))
def l9(P:bg):List (Nat×Obj):=G7 159 388 18 m2++
 G7 166 395 19 m2++
 G7 173 403 20 m2++
 G7 180 411 21 m2
def t10(P:bg):BT:=(((up (l9 P) (t9 P)).set 3 (zq m2 [E P "put_varint32" 394 (R 165),E P "read_varint32" 402 (R 172),E P "varint_length" 410 (R 179),E P "read_lengthed" 419 (R 186)] 29)).set 12 (zl (ft 0 [(60,164),(64,171),(68,178),(76,185)])))
def IW(P:bg):List dz:=[E P "__init__" 441 (R 201),E P "left" 448 (R 208),E P "varint" 457 (R 215),E P "fixed32" 464 (R 222),E P "fixed64" 471 (R 229),E P "lengthed" 480 (R 236),E P "octet" 488 (R 243),E P "flag" 496 (R 250),E P "take" 504 (R 257),E P "done" 511 (R 264),E P "__static_attributes__" 514 (R 265)]
def Ve(P:bg):List (Nat×Obj):=K1 P 187 420 m2 "Cursor" 81 [] (IW P) (ft 4 [(83,200),(89,207),(92,214),(101,221),(104,228),(107,235),(112,242),(119,249),(128,256),(131,263)]) 14++
 [(194,T [(.int 0 432)])]++
 F7 195 433 (sm 22 0) "Cursor.__init__" (R 194) m2++
 M7 202 442 22 1 "Cursor.left" m2++
 M7 209 449 22 2 "Cursor.varint" m2++
 M7 216 458 22 3 "Cursor.fixed32" m2++
 M7 223 465 22 4 "Cursor.fixed64" m2++
 M7 230 472 22 5 "Cursor.lengthed" m2++
 M7 237 481 22 6 "Cursor.octet" m2++
 M7 244 489 22 7 "Cursor.flag" m2++
 M7 251 497 22 8 "Cursor.take" m2++
 M7 258 505 22 9 "Cursor.done" m2++
 K2 P 265 420 m2 "Cursor" 81 (toks 512 ["at","data"]) (IW P) 516 4
def t11(P:bg):BT:=(((up (Ve P) (t10 P)).set 3 (zq m2 [E P "Cursor" 521 (R 267)] 30)).set 12 (zl (ft 0 [(81,192)])))
def Q5(P:bg):List dz:=[E P "__init__" 540 (R 285),E P "varint" 548 (R 292),E P "fixed32" 556 (R 299),E P "fixed64" 564 (R 306),E P "lengthed" 572 (R 313),E P "octet" 580 (R 320),E P "flag" 588 (R 327),E P "raw" 596 (R 334),E P "done" 603 (R 341),E P "__static_attributes__" 605 (R 342)]
def WN(P:bg):List (Nat×Obj):=K1 P 272 522 m2 "Sink" 134 [] (Q5 P) (ft 4 [(136,284),(139,291),(145,298),(148,305),(151,312),(155,319),(160,326),(166,333),(169,340)]) 13++
 M7 279 534 23 0 "Sink.__init__" m2++
 M7 286 541 23 1 "Sink.varint" m2++
 M7 293 549 23 2 "Sink.fixed32" m2++
 M7 300 557 23 3 "Sink.fixed64" m2++
 M7 307 565 23 4 "Sink.lengthed" m2++
 M7 314 573 23 5 "Sink.octet" m2++
 M7 321 581 23 6 "Sink.flag" m2++
 M7 328 589 23 7 "Sink.raw" m2++
 M7 335 597 23 8 "Sink.done" m2++
 K2 P 342 522 m2 "Sink" 134 (toks 604 ["parts"]) (Q5 P) 607 4
def t12(P:bg):BT:=(((up (WN P) (t11 P)).set 3 (zq m2 [E P "Sink" 612 (R 344)] 31)).set 12 (zl (ft 0 [(134,277)])))
def YV(P:bg):List (Nat×Obj):=G7 349 621 28 m3++
 G7 356 630 29 m3
def t13(P:bg):BT:=(((up (YV P) (t12 P)).set 3 (zq m3 [E P "MSG_PIECE" 616 (.int 20 615),E P "ENTRY_NORMAL" 618 (.int 0 617),E P "ENTRY_CONF" 620 (.int 2 619),E P "rising" 629 (R 355),E P "take_count" 637 (R 362)] 36)).set 12 (zl (ft 0 [(175,354),(181,361)])))
def QK(P:bg):List dz:=[E P "__init__" 660 (R 376),E P "row" 667 (R 383),E P "copy" 674 (R 390),E P "payload" 681 (R 397),E P "size" 690 (R 404),E P "__static_attributes__" 695 (R 405)]
def l13(P:bg):List (Nat×Obj):=K1 P 363 638 m3 "Entry" 186 [] (QK P) (ft 4 [(188,375),(194,382),(197,389),(200,396),(203,403)]) 9++
 M7 370 650 30 0 "Entry.__init__" m3++
 M7 377 661 30 1 "Entry.row" m3++
 M7 384 668 30 2 "Entry.copy" m3++
 M7 391 675 30 3 "Entry.payload" m3++
 M7 398 682 30 4 "Entry.size" m3++
 K2 P 405 638 m3 "Entry" 186 (toks 691 ["data","index","kind","term"]) (QK P) 697 4++
 G7 412 703 31 m3
def t14(P:bg):BT:=(((up (l13 P) (t13 P)).set 3 (zq m3 [E P "Entry" 702 (R 407),E P "encode_entry" 710 (R 418)] 38)).set 12 (zl (ft 0 [(186,368),(207,417)])))
def e14(P:bg):List dz:=[E P "__init__" 757 (R 446),E P "row" 764 (R 453),E P "copy" 771 (R 460),E P "__static_attributes__" 777 (R 461)]
def l14(P:bg):List (Nat×Obj):=G7 419 711 32 m3++
 G7 426 723 33 m3++
 K1 P 433 734 m3 "ConfState" 233 [] (e14 P) (ft 4 [(235,445),(242,452),(245,459)]) 7++
 M7 440 746 34 0 "ConfState.__init__" m3++
 M7 447 758 34 1 "ConfState.row" m3++
 M7 454 765 34 2 "ConfState.copy" m3++
 K2 P 461 734 m3 "ConfState" 233 (toks 772 ["auto_leave","learners","learners_next","outgoing","voters"]) (e14 P) 779 4++
 G7 468 785 35 m3
def t15(P:bg):BT:=(((up (l14 P) (t14 P)).set 3 (zq m3 [E P "decode_entry" 722 (R 425),E P "limit_size" 733 (R 432),E P "ConfState" 784 (R 463),E P "put_ids" 793 (R 474)] 42)).set 12 (zl (ft 0 [(214,424),(224,431),(233,438),(247,473)])))
def l15(P:bg):List (Nat×Obj):=G7 475 794 36 m3++
 G7 482 804 37 m3++
 G7 489 812 38 m3
def t16(P:bg):BT:=(((up (l15 P) (t15 P)).set 3 (zq m3 [E P "take_ids" 803 (R 481),E P "encode_conf" 811 (R 488),E P "decode_conf" 824 (R 495)] 45)).set 12 (zl (ft 0 [(251,480),(259,487),(267,494)])))
def e16(P:bg):List dz:=[E P "__init__" 847 (R 509),E P "row" 854 (R 516),E P "empty" 861 (R 523),E P "copy" 868 (R 530),E P "__static_attributes__" 873 (R 531)]
def l16(P:bg):List (Nat×Obj):=K1 P 496 825 m3 "Snapshot" 276 [] (e16 P) (ft 4 [(278,508),(284,515),(287,522),(290,529)]) 8++
 M7 503 837 39 0 "Snapshot.__init__" m3++
 M7 510 848 39 1 "Snapshot.row" m3++
 M7 517 855 39 2 "Snapshot.empty" m3++
 M7 524 862 39 3 "Snapshot.copy" m3++
 K2 P 531 825 m3 "Snapshot" 276 (toks 869 ["conf","data","index","term"]) (e16 P) 875 4++
 G7 538 881 40 m3++
 G7 545 889 41 m3
def t17(P:bg):BT:=(((up (l16 P) (t16 P)).set 3 (zq m3 [E P "Snapshot" 880 (R 533),E P "encode_snapshot" 888 (R 544),E P "decode_snapshot" 900 (R 551)] 48)).set 12 (zl (ft 0 [(276,501),(292,543),(299,550)])))
def e17(P:bg):List dz:=[E P "__init__" 923 (R 565),E P "row" 929 (R 570),E P "copy" 935 (R 575),E P "__static_attributes__" 948 (R 576)]
def l17(P:bg):List (Nat×Obj):=K1 P 552 901 m3 "Message" 307 [] (e17 P) (ft 4 [(309,564),(323,569),(330,574)]) 7++
 M7 559 913 42 0 "Message.__init__" m3++
 M5 566 924 42 1 "Message.row" m3++
 M5 571 930 42 2 "Message.copy" m3++
 K2 P 576 901 m3 "Message" 307 (toks 936 ["commit","context","entries","frm","index","kind","log_term","reject","reject_hint","snapshot","term","to"]) (e17 P) 950 4++
 G7 583 956 43 m3++
 G7 590 965 44 m3
def t18(P:bg):BT:=(((up (l17 P) (t17 P)).set 3 (zq m4 [E P "Message" 955 (R 578),E P "encode_message" 964 (R 589),E P "decode_message" 977 (R 596),E P "CMD_NONE" 981 (.int 0 980),E P "CMD_CLOSE" 983 (.int 6 982)] 53)).set 12 (zl (ft 0 [(307,557),(342,588),(361,595)])))
def e18(P:bg):List dz:=[E P "__init__" 1008 (R 610),E P "row" 1015 (R 617),E P "encode" 1023 (R 624),E P "__static_attributes__" 1030 (R 625)]
def l18(P:bg):List (Nat×Obj):=K1 P 597 984 m4 "Command" 384 [] (e18 P) (ft 4 [(386,609),(394,616),(397,623)]) 7++
 M7 604 996 48 0 "Command.__init__" m4++
 M7 611 1009 48 1 "Command.row" m4++
 M7 618 1016 48 2 "Command.encode" m4++
 K2 P 625 984 m4 "Command" 384 (toks 1024 ["client","expect","key","kind","number","value"]) (e18 P) 1032 4++
 G7 632 1038 49 m4++
 G7 639 1046 50 m4++
 G7 646 1053 51 m4
def t19(P:bg):BT:=(((up (l18 P) (t18 P)).set 3 (zq m5 [E P "Command" 1037 (R 627),E P "put_maybe" 1045 (R 638),E P "take_maybe" 1052 (R 645),E P "decode_command" 1066 (R 652)] 57)).set 12 (zl (ft 0 [(384,602),(411,637),(415,644),(419,651)])))
def e19(P:bg):List dz:=[E P "__init__" 1088 (R 666),E P "maybe_first" 1095 (R 673),E P "maybe_last" 1102 (R 680),E P "maybe_term" 1110 (R 687),E P "stable_to" 1120 (R 694),E P "stable_snap_to" 1128 (R 701),E P "restore" 1136 (R 708),E P "truncate_and_append" 1145 (R 715),E P "part" 1154 (R 722),E P "row" 1164 (R 729),E P "__static_attributes__" 1168 (R 730)]
def l19(P:bg):List (Nat×Obj):=K1 P 653 1069 m5 "Unstable" 435 [] (e19 P) (ft 4 [(437,665),(442,672),(445,679),(448,686),(457,693),(466,700),(469,707),(472,714),(486,721),(493,728)]) 14++
 M7 660 1081 53 0 "Unstable.__init__" m5++
 M7 667 1089 53 1 "Unstable.maybe_first" m5++
 M7 674 1096 53 2 "Unstable.maybe_last" m5++
 M7 681 1103 53 3 "Unstable.maybe_term" m5++
 M7 688 1111 53 4 "Unstable.stable_to" m5++
 M7 695 1121 53 5 "Unstable.stable_snap_to" m5++
 M7 702 1129 53 6 "Unstable.restore" m5++
 M7 709 1137 53 7 "Unstable.truncate_and_append" m5++
 M7 716 1146 53 8 "Unstable.part" m5++
 M7 723 1155 53 9 "Unstable.row" m5++
 K2 P 730 1069 m5 "Unstable" 435 (toks 1165 ["entries","offset","snapshot"]) (e19 P) 1170 4
def t20(P:bg):BT:=(((up (l19 P) (t19 P)).set 3 (zq m5 [E P "Unstable" 1175 (R 732)] 58)).set 12 (zl (ft 0 [(435,658)])))
def l20(P:bg):List (Nat×Obj):=G7 737 1178 55 m6++
 G7 744 1186 56 m6++
 G7 751 1193 57 m6++
 G7 758 1200 58 m6++
 G5 765 1207 59 m6++
 G7 770 1213 60 m6++
 G7 777 1220 61 m6++
 G7 784 1229 62 m6++
 G7 791 1238 63 m6++
 G7 798 1245 64 m6++
 G7 805 1254 65 m6++
 G7 812 1264 66 m6++
 G7 819 1271 67 m6
def t21(P:bg):BT:=(((up (l20 P) (t20 P)).set 3 (zq m6 [E P "_law_draw" 1185 (R 743),E P "_law_wide" 1192 (R 750),E P "_law_beyond" 1199 (R 757),E P "_law_octs" 1206 (R 764),E P "_law_var" 1212 (R 769),E P "_law_text" 1219 (R 776),E P "_law_other" 1228 (R 783),E P "_law_other_octs" 1237 (R 790),E P "_law_entry" 1244 (R 797),E P "_law_put" 1253 (R 804),E P "_law_turn" 1263 (R 811),E P "_law_weighed" 1270 (R 818),E P "_law_read_entry" 1277 (R 825)] 71)).set 12 (zl (ft 0 [(502,742),(504,749),(508,756),(512,763),(514,768),(519,775),(521,782),(526,789),(531,796),(533,803),(543,810),(551,817),(553,824)])))
def l21(P:bg):List (Nat×Obj):=G7 826 1278 68 m6++
 G5 833 1286 69 m6++
 G7 838 1292 70 m6++
 G5 845 1300 71 m6++
 G5 850 1306 72 m6++
 G5 855 1312 73 m6++
 G5 860 1318 74 m6++
 G7 865 1324 75 m6++
 G7 872 1331 76 m6++
 G7 879 1340 77 m6++
 G7 886 1349 78 m6++
 G7 893 1357 79 m6++
 G7 900 1366 80 m6
def t22(P:bg):BT:=(((up (l21 P) (t21 P)).set 3 (zq m6 [E P "_law_told" 1285 (R 832),E P "_law_paged" 1291 (R 837),E P "_law_refuses" 1299 (R 844),E P "_law_shot" 1305 (R 849),E P "_law_message" 1311 (R 854),E P "_law_message_row" 1317 (R 859),E P "_law_readable" 1323 (R 864),E P "_law_read_message" 1330 (R 871),E P "_law_heard" 1339 (R 878),E P "_law_say" 1348 (R 885),E P "_law_shoot" 1356 (R 892),E P "_law_tell" 1365 (R 899),E P "_law_command" 1373 (R 906)] 84)).set 12 (zl (ft 0 [(558,831),(565,836),(573,843),(586,848),(589,853),(598,858),(606,863),(608,870),(613,877),(621,884),(639,891),(642,898),(656,905)])))
def l22(P:bg):List (Nat×Obj):=G7 907 1374 81 m6++
 G7 914 1382 82 m6++
 G5 921 1389 83 m6++
 G7 926 1395 84 m6++
 G7 933 1407 85 m6++
 G7 940 1419 86 m6++
 G7 947 1430 87 m6++
 G7 954 1440 88 m6++
 G7 961 1451 89 m6++
 G5 968 1463 90 m6++
 G5 973 1469 91 m6++
 G5 978 1475 92 m6++
 G7 983 1481 93 m6
def t23(P:bg):BT:=(((up (l22 P) (t22 P)).set 3 (zq m6 [E P "_law_asked" 1381 (R 913),E P "_law_command_refuses" 1388 (R 920),E P "_law_out_of_reach" 1394 (R 925),E P "_law_read_again" 1406 (R 932),E P "_law_copied" 1418 (R 939),E P "_law_reworded" 1429 (R 946),E P "_law_more_or_fewer" 1439 (R 953),E P "_law_shot_otherwise" 1450 (R 960),E P "_law_ordered_otherwise" 1462 (R 967),E P "_law_waits" 1468 (R 972),E P "_law_put_to_wait" 1474 (R 977),E P "_law_gone_on_with" 1480 (R 982),E P "_law_deed" 1493 (R 989)] 97)).set 12 (zl (ft 0 [(661,912),(666,919),(672,924),(684,931),(695,938),(704,945),(723,952),(732,959),(754,966),(780,971),(787,976),(815,981),(840,988)])))
def l23(P:bg):List (Nat×Obj):=G5 990 1494 94 m6
def Ug(P:bg):BT:=(((up (l23 P) (t23 P)).set 3 (zq m6 [E P "law" 1499 (R 994)] 98)).set 12 (zl (ft 0 [(858,993)])))
noncomputable def lf:Life:=⟨[],[],[],0,[],[],false,#[],[],0,false,false,false,0,[2000,10,10],false,0,true,[],[],0,false⟩
abbrev Sg(t:BT)(n k:Nat)(os:bL):SharedT:=⟨t,n,lf,#[],⟨0,0,0,0⟩,k,os⟩
def Gb:mA:={scope:=pw.main.scope,locals:=mainNs,globals:=mainNs,cells:=[],code:=R 13,frame:=some 14}
abbrev cE:Code:=.body JA Gb
noncomputable abbrev p0:Pos:=⟨0,0,0,0⟩
def kM(w:bY)(a k N:Nat)(s:SharedT)(p:Pos):=segRunT treeTable pw w 11 (some (R 6)) 1 N s (piecesOf ((JA.drop a).take k) Gb cE p [topFrame p0])
theorem ew(w:bY)(a k N:Nat)(s:SharedT)(p:Pos):kM w a k N s p=PySem.W.Fast.tw10110043849684766642 PySem.W.Fast.tw14364793385576792824 pw w 11 (some (R 6)) 1 N s
  ⟨Sem.wrap doneF deadEnd id id (PySem.W.Fast.tw12563942051412417395 ((JA.drop a).take k) Gb),cE,p,[topFrame p0]⟩:=by
 unfold kM piecesOf;rw[rH,iO,PySem.W.Fast.te12563942051412417395]
theorem h0(w:bY)(os:bL):kM w 0 3 235 (Sg (t0 w.params) 15 187 os) p0=some (.next,Sg (t1 w.params) 35 216 os,cE,⟨5,0,6,8⟩):=by rw[ew];kernel_rfl
theorem h1(w:bY)(os:bL):kM w 3 1 214 (Sg (t1 w.params) 35 216 os) ⟨5,0,6,8⟩=some (.next,Sg (t2 w.params) 47 232 os,cE,⟨7,0,8,8⟩):=by rw[ew];kernel_rfl
theorem h2(w:bY)(os:bL):kM w 4 1 228 (Sg (t2 w.params) 47 232 os) ⟨7,0,8,8⟩=some (.next,Sg (t3 w.params) 59 248 os,cE,⟨9,0,10,8⟩):=by rw[ew];kernel_rfl
theorem h3(w:bY)(os:bL):kM w 5 1 242 (Sg (t3 w.params) 59 248 os) ⟨9,0,10,8⟩=some (.next,Sg (t4 w.params) 71 264 os,cE,⟨11,0,12,8⟩):=by rw[ew];kernel_rfl
theorem h4(w:bY)(os:bL):kM w 6 1 228 (Sg (t4 w.params) 71 264 os) ⟨11,0,12,8⟩=some (.next,Sg (t5 w.params) 83 280 os,cE,⟨13,0,14,8⟩):=by rw[ew];kernel_rfl
theorem h5(w:bY)(os:bL):kM w 7 1 214 (Sg (t5 w.params) 83 280 os) ⟨13,0,14,8⟩=some (.next,Sg (t6 w.params) 95 296 os,cE,⟨15,0,16,8⟩):=by rw[ew];kernel_rfl
theorem h6(w:bY)(os:bL):kM w 8 1 228 (Sg (t6 w.params) 95 296 os) ⟨15,0,16,8⟩=some (.next,Sg (t7 w.params) 107 312 os,cE,⟨17,0,18,8⟩):=by rw[ew];kernel_rfl
theorem h7(w:bY)(os:bL):kM w 9 1 214 (Sg (t7 w.params) 107 312 os) ⟨17,0,18,8⟩=some (.next,Sg (t8 w.params) 119 328 os,cE,⟨19,0,20,8⟩):=by rw[ew];kernel_rfl
theorem h8(w:bY)(os:bL):kM w 10 8 381 (Sg (t8 w.params) 119 328 os) ⟨19,0,20,8⟩=some (.next,Sg (t9 w.params) 159 388 os,cE,⟨56,0,59,44⟩):=by rw[ew];kernel_rfl
theorem h9(w:bY)(os:bL):kM w 18 4 121 (Sg (t9 w.params) 159 388 os) ⟨56,0,59,44⟩=some (.next,Sg (t10 w.params) 187 420 os,cE,⟨76,0,80,51⟩):=by rw[ew];kernel_rfl
theorem Ql(w:bY)(os:bL):kM w 22 1 513 (Sg (t10 w.params) 187 420 os) ⟨76,0,80,51⟩=some (.next,Sg (t11 w.params) 272 522 os,cE,⟨81,0,133,64⟩):=by rw[ew];kernel_rfl
theorem h11(w:bY)(os:bL):kM w 23 1 477 (Sg (t11 w.params) 272 522 os) ⟨81,0,133,64⟩=some (.next,Sg (t12 w.params) 349 613 os,cE,⟨134,0,170,32⟩):=by rw[ew];kernel_rfl
theorem h12(w:bY)(os:bL):kM w 24 6 98 (Sg (t12 w.params) 349 613 os) ⟨134,0,170,32⟩=some (.next,Sg (t13 w.params) 363 638 os,cE,⟨181,0,185,16⟩):=by rw[ew];kernel_rfl
theorem h13(w:bY)(os:bL):kM w 30 2 385 (Sg (t13 w.params) 363 638 os) ⟨181,0,185,16⟩=some (.next,Sg (t14 w.params) 419 711 os,cE,⟨207,0,213,22⟩):=by rw[ew];kernel_rfl
theorem h14(w:bY)(os:bL):kM w 32 4 391 (Sg (t14 w.params) 419 711 os) ⟨207,0,213,22⟩=some (.next,Sg (t15 w.params) 475 794 os,cE,⟨247,0,250,24⟩):=by rw[ew];kernel_rfl
theorem h15(w:bY)(os:bL):kM w 36 3 98 (Sg (t15 w.params) 475 794 os) ⟨247,0,250,24⟩=some (.next,Sg (t16 w.params) 496 825 os,cE,⟨267,0,275,75⟩):=by rw[ew];kernel_rfl
theorem h16(w:bY)(os:bL):kM w 39 3 386 (Sg (t16 w.params) 496 825 os) ⟨267,0,275,75⟩=some (.next,Sg (t17 w.params) 552 901 os,cE,⟨299,0,306,44⟩):=by rw[ew];kernel_rfl
theorem h17(w:bY)(os:bL):kM w 42 6 386 (Sg (t17 w.params) 552 901 os) ⟨299,0,306,44⟩=some (.next,Sg (t18 w.params) 597 984 os,cE,⟨383,0,383,9⟩):=by rw[ew];kernel_rfl
theorem h18(w:bY)(os:bL):kM w 48 5 400 (Sg (t18 w.params) 597 984 os) ⟨383,0,383,9⟩=some (.next,Sg (t19 w.params) 653 1069 os,cE,⟨434,0,434,8⟩):=by rw[ew];kernel_rfl
theorem h19(w:bY)(os:bL):kM w 53 1 517 (Sg (t19 w.params) 653 1069 os) ⟨434,0,434,8⟩=some (.next,Sg (t20 w.params) 737 1176 os,cE,⟨435,0,500,47⟩):=by rw[ew];kernel_rfl
theorem zx(w:bY)(os:bL):kM w 54 14 394 (Sg (t20 w.params) 737 1176 os) ⟨435,0,500,47⟩=some (.next,Sg (t21 w.params) 826 1278 os,cE,⟨553,0,557,19⟩):=by rw[ew];kernel_rfl
theorem h21(w:bY)(os:bL):kM w 68 13 373 (Sg (t21 w.params) 826 1278 os) ⟨553,0,557,19⟩=some (.next,Sg (t22 w.params) 907 1374 os,cE,⟨656,0,660,44⟩):=by rw[ew];kernel_rfl
theorem h22(w:bY)(os:bL):kM w 81 13 399 (Sg (t22 w.params) 907 1374 os) ⟨656,0,660,44⟩=some (.next,Sg (t23 w.params) 990 1494 os,cE,⟨840,0,857,34⟩):=by rw[ew];kernel_rfl
theorem h23(w:bY)(os:bL):kM w 94 1 27 (Sg (t23 w.params) 990 1494 os) ⟨840,0,857,34⟩=some (.next,Sg (Ug w.params) 995 1500 os,cE,⟨858,0,917,88⟩):=by rw[ew];kernel_rfl
end
end Mine.HD
end
section
open PySem PySem.W PyProof.Rows PySem.Challenge
namespace Mine.HD
abbrev ann:Option Value:=some (R 6)
abbrev B0:List Frame:=[topFrame p0]
theorem op0:opening pw=plainProg pw.main.scope.names:=by kernel_rfl
theorem UM(s:Shared):fenceModules? pw s=some s:=by kernel_rfl
theorem WE(w:bY):((boot_heap w.params).isNs mainGlobals&&(#[]:Array GenState).size==0,(boot_heap w.params).objs.size,(boot_heap w.params).nsMap mainGlobals "__annotations__")=(true,11,ann):=by kernel_rfl
theorem aaE(w:bY)(os:bL):topGo treeTable pw w 11 ann 12 ⟨boot_heap w.params,#[],A_,DD,os⟩ (topStub pw)=some ((Sg (t0 w.params) 15 187 os).abs,⟨denote treeTable cE,cE,p0,B0⟩):=by
 rw[PySem.W.Fast.te15667345088766844465,iO,PySem.W.Fast.te11892475500146522536]
 kernel_rfl
theorem aaA(w:bY)(os:bL):segRunT treeTable pw w 11 ann 1 1 (Sg (t0 w.params) 15 187 os) (blockOf JA Gb cE p0 B0)=some (.next,Sg (t0 w.params) 15 187 os,cE,p0):=by
 rw[rH,iO]
 kernel_rfl
theorem aa0:JA.drop 95=[]:=by kernel_rfl
theorem abf(w:bY)(s:Shared)(p:Pos):topRun treeTable pw w 11 ann 2 s ⟨doneF .next,cE,p,B0⟩=some s:=by kernel_rfl
theorem ig{w:bY}{a k n N:Nat}{s s':SharedT}{p b:Pos}{x:Shared}(h:kM w a k n s p=some (.next,s',cE,b))(r:topRun treeTable pw w 11 ann N s'.abs (restOf (JA.drop (a+k)) Gb cE b B0)=some x):
  topRun treeTable pw w 11 ann (n+N) s.abs (restOf (JA.drop a) Gb cE p B0)=some x:=by
 have e:JA.drop a=(JA.drop a).take k++JA.drop (a+k):=by rw[<-List.drop_drop];exact(ui _ _).symm
 rw[e];exact piece_app (segRun_of h) r
noncomputable def PL:Nat:=12+(1+(235+(214+(228+(242+(228+(214+(228+(214+(381+(121+(513+(477+(98+(385+(391+(98+(386+(386+(400+(517+(394+(373+(399+(27+2)))))))))))))))))))))))))
theorem aa3(w:bY)(os:bL):topRun treeTable pw w 11 ann PL ⟨boot_heap w.params,#[],A_,DD,os⟩ (topStub pw)=some (Sg (Ug w.params) 995 1500 os).abs:=by
 refine go_top (aaE w os) (piece_block (segRun_of (aaA w os)) ?_);have f:topRun treeTable pw w 11 ann 2 (Sg (Ug w.params) 995 1500 os).abs (restOf (JA.drop 95) Gb cE ⟨858,0,917,88⟩ B0)=some (Sg (Ug w.params) 995 1500 os).abs:=by
  rw[aa0];exact abf w _ _
 exact ig (a:=0) (k:=3) (h0 w os) (ig (a:=3) (k:=1) (h1 w os) (ig (a:=4) (k:=1) (h2 w os) (ig (a:=5) (k:=1) (h3 w os) (ig (a:=6) (k:=1) (h4 w os) (ig (a:=7) (k:=1) (h5 w os) (ig (a:=8) (k:=1) (h6 w os) (ig (a:=9) (k:=1) (h7 w os) (ig (a:=10) (k:=8) (h8 w os) (ig (a:=18) (k:=4) (h9 w os) (ig (a:=22) (k:=1) (Ql w os) (ig (a:=23) (k:=1) (h11 w os) (ig (a:=24) (k:=6) (h12 w os) (ig (a:=30) (k:=2) (h13 w os) (ig (a:=32) (k:=4) (h14 w os) (ig (a:=36) (k:=3) (h15 w os) (ig (a:=39) (k:=3) (h16 w os) (ig (a:=42) (k:=6) (h17 w os) (ig (a:=48) (k:=5) (h18 w os) (ig (a:=53) (k:=1) (h19 w os) (ig (a:=54) (k:=14) (zx w os) (ig (a:=68) (k:=13) (h21 w os) (ig (a:=81) (k:=13) (h22 w os) (ig (a:=94) (k:=1) (h23 w os) f)))))))))))))))))))))))
end Mine.HD
end
section
open PySem PySem.W PyProof.Rows PySem.Challenge
namespace Mine.HD
def HF(P:bg):Heap:=absHeap (Ug P) 995 lf
def qv:eE:={pw with main:={pw.main with body:=[st 94]}}
def GK:List Str:=((JA.take 94).flatMap bindsAtTop).filter λk=>!startupNames.contains k
abbrev SF(w:bY)(os:bL):Shared:=⟨HF w.params,#[],⟨0,0,0,0⟩,1500,os⟩
theorem Wo(w:bY):staticsOk (importedModules pw.main.body) (boot_heap w.params) (HF w.params)=true:=by kernel_rfl
theorem VU(w:bY):namesBound pw (HF w.params)=true:=by kernel_rfl
theorem Vn(w:bY):laidKept (boot_heap w.params) (HF w.params)=true:=by kernel_rfl
theorem Yr(w:bY)(os:bL):seen ((recsOf qv).map (·.name)) (ownsOf qv) [] {SF w os with gens:=#[]}=expectedOf qv:=by kernel_rfl
theorem YY(w:bY):(HF w.params).bltView=bltViewBooted:=by kernel_rfl
theorem Vv(w:bY):(HF w.params).keysOk (looseW qv GK) ((recsOf qv).map (·.name)) ((litsOf qv).map (·.1)) ((clssOf qv (looseW qv GK)).map (·.name))=true:=by kernel_rfl
theorem X_(w:bY):(HF w.params).accountedOkI (importedModules pw.main.body)=true:=by kernel_rfl
theorem XG(w:bY):(HF w.params).isNs mainGlobals=true:=by kernel_rfl
theorem XU(w:bY):(HF w.params).isNs nG=true:=by kernel_rfl
theorem Uc(w:bY)(os:bL):tabsOk qv (SF w os)=true:=by kernel_rfl
theorem Rm(w:bY)(os:bL):pinSeenD qv (drecsOf qv) (SF w os)=pinGoodD (drecsOf qv):=by kernel_rfl
theorem Uz(w:bY)(os:bL):plainSeenE qv (looseW qv GK) (SF w os)=plainGoodE qv (looseW qv GK):=by kernel_rfl
theorem Sf(w:bY)(os:bL):plainSeenD qv GK (SF w os)=plainGoodD qv GK:=by kernel_rfl
theorem RB(w:bY)(os:bL):wideSeen qv (SF w os)=wideGood qv:=by kernel_rfl
theorem TN(w:bY)(os:bL):clsSeenW qv GK (SF w os)=clsGoodW qv GK:=by kernel_rfl
theorem Ts(w:bY):tablesOk qv (HF w.params)=true:=by kernel_rfl
end Mine.HD
end
section
open PySem PySem.W PyProof.Rows PySem.Challenge
namespace Mine.HD
theorem Tj(w:bY):(λos=>((staticsOk (importedModules pw.main.body) (boot_heap w.params) (HF w.params) &&namesBound pw (HF w.params) &&gensDone (SF w os) &&laidKept (boot_heap w.params) (HF w.params)),
    openSeen qv GK (importedModules pw.main.body) (λ_=>true) true (SF w os),(SF w os).heap))=λ_=>(true,openGood qv GK,HF w.params):=by
 refine funext λos=>looks_pair ?_ (looks_pair ?_ rfl)
 ·rw[Wo,VU,Vn];rfl
 ·unfold openSeen openGood;refine looks_pair (Yr w os) (looks_pair (YY w) (looks_pair ?_ (looks_pair (Uc w os) (looks_pair (Rm w os) (looks_pair (Uz w os) (looks_pair (Sf w os) (looks_pair (RB w os) (TN w os))))))));show(_&&_&&_&&_&&_&&_&&_)=true;rw[Vv,X_,XG,XU,Ts];rfl
theorem aag:∀w:bY,(fencedOpening treeTable pw w 30000).map (λs=>(s.heap,s.gens,s.drawn,s.toks))=some (boot_heap w.params,#[],A_,DD):=
 boot_open op0 (d4.mpr (by decide)) UM
theorem le0:dO PL 30000=true:=by decide+kernel
theorem aaf(w:bY)(os:bL):(Sg (Ug w.params) 995 1500 os).abs=SF w os:=by kernel_rfl
theorem Ri(w:bY)(os:bL):topRun treeTable pw w 11 ann PL ⟨boot_heap w.params,#[],A_,DD,os⟩ (topStub pw)=some (SF w os):=(aa3 w os).trans (congrArg some (aaf w os))
theorem Wi:LeftO pw qv GK (λ_=>true) (λs=>s.heap) (λw=>HF w.params) 30000:=by
 have h:=@LeftO.of_pieces pw qv GK (λ_=>true) Heap (λs=>s.heap) (λw=>HF w.params) 30000 true boot_heap HF #[] #[] A_ ⟨0,0,0,0⟩ DD 1500 11 ann PL;exact h aag WE Ri le0 Tj
end Mine.HD
end
section
namespace Mine
structure Fx where
 f:Nat
 k:Nat
 ms:List S
 N:dJ
@[irreducible] def Jg:List Fx:=[⟨137,2,mQ,tf⟩,⟨144,4,oO,uU⟩,⟨151,1,qd,wm⟩,⟨158,2,oP,uB⟩,⟨165,1,nk,sj⟩,⟨172,2,lI,qN⟩,⟨179,1,lK,qF⟩,⟨186,2,lD,qY⟩,⟨201,3,jd,oK⟩,⟨208,1,oN,uv⟩,⟨215,1,lL,qB⟩,⟨236,1,jS,n_⟩,⟨250,1,o5,ux⟩,⟨264,1,oF,uF⟩,⟨285,1,rS,yU⟩,⟨292,2,oR,uI⟩,⟨313,2,lJ,qK⟩,⟨327,2,sM,yd⟩,⟨341,1,s6,yP⟩,⟨355,1,Am,Eb⟩,⟨362,1,qr,wz⟩,⟨376,5,pU,vR⟩,⟨383,1,sO,yI⟩,⟨390,1,pM,wh⟩,⟨397,1,lE,qD⟩,⟨404,1,pZ,wc⟩,⟨418,1,nq,te⟩,⟨425,1,ny,sQ⟩,⟨432,2,qf,v_⟩,⟨446,6,kj,ph⟩,⟨453,1,lO,qH⟩,⟨460,1,ko,pg⟩,⟨474,2,xK,BY⟩,⟨481,1,vm,zI⟩,⟨488,1,oS,uL⟩,⟨495,1,oD,uS⟩,⟨509,5,lG,qC⟩,⟨516,1,mP,sF⟩,⟨530,1,lT,qu⟩,⟨544,1,jO,oo⟩,⟨551,1,jT,nW⟩,⟨565,5,mV,rX⟩,⟨570,1,oM,uY⟩,⟨575,1,mK,rY⟩,⟨589,1,kn,pH⟩,⟨596,1,kN,pG⟩,⟨610,7,mZ,se⟩,⟨617,1,oV,uq⟩,⟨624,1,km,pF⟩,⟨638,2,sg,yg⟩,⟨645,1,pP,vP⟩,⟨652,1,kK,pB⟩,⟨666,2,lC,qT⟩,⟨687,2,hU,kh⟩,⟨694,3,iF,k_⟩,⟨715,2,eY,gq⟩,⟨722,3,lF,qA⟩,⟨729,1,mO,sU⟩,⟨743,2,sA,yE⟩,⟨750,1,rJ,yH⟩,⟨757,1,o8,uj⟩,⟨764,1,sV,yQ⟩,⟨769,1,vz,zY⟩,⟨776,1,ti,yl⟩,⟨783,2,pT,vO⟩,⟨790,2,jI,nX⟩,⟨797,1,qk,wO⟩,⟨804,3,u7,Az⟩,⟨811,3,sG,yu⟩,⟨818,1,mS,rZ⟩,⟨825,1,jQ,nZ⟩,⟨832,1,rM,yA⟩,⟨837,3,qs,vV⟩,⟨844,2,nt,sR⟩,⟨849,1,s8,yw⟩,⟨854,1,m_,rP⟩,⟨859,1,jr,mU⟩,⟨864,1,lN,qU⟩,⟨871,1,iU,lX⟩,⟨878,1,qp,w8⟩,⟨885,3,u9,zW⟩,⟨892,2,pW,wU⟩,⟨899,3,sT,yS⟩,⟨906,1,mW,sY⟩,⟨913,1,pO,wi⟩,⟨920,1,gQ,jG⟩,⟨925,3,iV,l_⟩,⟨932,3,jM,om⟩,⟨939,3,oQ,uM⟩,⟨946,2,lH,qI⟩,⟨953,3,iA,kY⟩,⟨960,2,hW,j9⟩,⟨967,2,f_,je⟩,⟨972,2,qm,vK⟩,⟨977,4,jo,mY⟩,⟨982,2,iT,lY⟩,⟨989,7,tg,yN⟩,⟨994,1,HJ,Qw⟩]
@[irreducible] noncomputable def gO(P:bg)(a:Nat):Obj:=((HD.Ug P).get a).getD default
@[irreducible] noncomputable def ks:List Nat:=gw 995
theorem Cb{b:Nat}:b∈ks ↔ b<995:=by unfold ks;exact List.mem_range
def KK(P:bg)(a:Nat)(o:Obj):fq:=ks.map (λb=>(b,gO P b))++[(a,o)]
def fD(P:bg)(a:Nat):FuncData:=match (gO P a).data with
 | .func d=>d
 |_=>default
def bF(P:bg)(a:Nat):List jD:=match (fD P a).body with
 | .stmts b=>b
 |_=>[]
def xF(P:bg)(a:Nat):List Str:=(fD P a).params.args.map (·.arg)
def isF(P:bg)(a:Nat):Bool:=(match (gO P a).data with| .func _=>true|_=>false) &&((fD P a).globals==mainGlobals&&((fD P a).closure.isEmpty&&((fD P a).builtins==nG&&(match (fD P a).body with| .stmts _=>true|_=>false))))
theorem Si{P:bg}{a:Nat}(h:(match (gO P a).data with| .func _=>true|_=>false)=true):(gO P a).data=.func (fD P a):=by
 unfold fD;generalize (gO P a).data=d at h⊢;cases d with
 |func d=>rfl
 |_=>cases h
theorem Sp{P:bg}{a:Nat}(h:(match (fD P a).body with| .stmts _=>true|_=>false)=true):(fD P a).body=.stmts (bF P a):=by
 unfold bF;generalize (fD P a).body=d at h⊢;cases d with
 |stmts d=>rfl
 |expr _=>cases h
def fOk(P:bg)(b:Nat)(o:Obj)(x:Fx):Bool:=isF P x.f&&(aB x.f 995&&(codeIn (KK P b o) (fD P x.f).code (fD P x.f).qualname&&(ip (xF P x.f).length x.k&&(Ul (fD P x.f).scope (xF P x.f) &&(DW x.N (fD P x.f).scope.names&&(argsOk x.N (xF P x.f) &&y0 aH Ax x.N (fD P x.f).scope.names true x.ms (bF P x.f)))))))
theorem Lq(P:bg)(b:Nat)(o:Obj):Jg.map (λx=>fOk P b o x)=Jg.map (λ_=>true):=by kernel_rfl
theorem XH(P:bg):Jg.map (λx=>y7 x.ms (bF P x.f))=Jg.map (λx=>bF P x.f):=by kernel_rfl
@[irreducible] def fk(k:Nat):List Fx:=Jg.filter λx=>ip x.k k&&!Nat.beq x.f 201
theorem bind1(P:bg)(v:Value):(fk 1).map (λx=>bindArgs (fD P x.f) ⟨[v],[]⟩)=(fk 1).map (λx=>pure ((xF P x.f).zip [v])):=by kernel_rfl
theorem VC(P:bg)(a v:Value):(fk 2).map (λx=>bindArgs (fD P x.f) ⟨[a,v],[]⟩)=(fk 2).map (λx=>pure ((xF P x.f).zip [a,v])):=by kernel_rfl
theorem Xf(P:bg)(b a v:Value):(fk 3).map (λx=>bindArgs (fD P x.f) ⟨[b,a,v],[]⟩)=(fk 3).map (λx=>pure ((xF P x.f).zip [b,a,v])):=by kernel_rfl
theorem X3(P:bg)(c b a v:Value):(fk 4).map (λx=>bindArgs (fD P x.f) ⟨[c,b,a,v],[]⟩)=(fk 4).map (λx=>pure ((xF P x.f).zip [c,b,a,v])):=by kernel_rfl
theorem VI(P:bg)(d c b a v:Value):(fk 5).map (λx=>bindArgs (fD P x.f) ⟨[d,c,b,a,v],[]⟩)=(fk 5).map (λx=>pure ((xF P x.f).zip [d,c,b,a,v])):=by kernel_rfl
theorem XA(P:bg)(e d c b a v:Value):(fk 6).map (λx=>bindArgs (fD P x.f) ⟨[e,d,c,b,a,v],[]⟩)=(fk 6).map (λx=>pure ((xF P x.f).zip [e,d,c,b,a,v])):=by kernel_rfl
theorem V7(P:bg)(g e d c b a v:Value):(fk 7).map (λx=>bindArgs (fD P x.f) ⟨[g,e,d,c,b,a,v],[]⟩)=(fk 7).map (λx=>pure ((xF P x.f).zip [g,e,d,c,b,a,v])):=by kernel_rfl
theorem V2:Jg.all (λx=>dO 1 x.k&&dO x.k 7)=true:=by decide+kernel
theorem bindAll(P:bg){x:Fx}(g:x∈Jg)(h:x.f≠201):∀{a:List Value},a.length=x.k->bindArgs (fD P x.f) ⟨a,[]⟩=pure ((xF P x.f).zip a):=by
 intro a hl;have m:∀k,x.k=k->x∈fk k:=λk e=>by
  unfold fk;exact List.mem_filter.mpr ⟨g,by rw[e,Nat.beq_refl];cases q:ip x.f 201 with|false=>rfl|true=>exact absurd (u0 q) h⟩
 have d:=ag.mp (cJ.mp V2 x g);have c:=aE d.1;have b:=aE d.2
 match a,hl with
 |[],hl=>rw[<-hl] at c;exact absurd c (by decide)
 |[v0],hl=>exact cQ.mp (bind1 P v0) x (m 1 hl.symm)
 |[v0,v1],hl=>exact cQ.mp (VC P v0 v1) x (m 2 hl.symm)
 |[v0,v1,v2],hl=>exact cQ.mp (Xf P v0 v1 v2) x (m 3 hl.symm)
 |[v0,v1,v2,v3],hl=>exact cQ.mp (X3 P v0 v1 v2 v3) x (m 4 hl.symm)
 |[v0,v1,v2,v3,v4],hl=>exact cQ.mp (VI P v0 v1 v2 v3 v4) x (m 5 hl.symm)
 |[v0,v1,v2,v3,v4,v5],hl=>exact cQ.mp (XA P v0 v1 v2 v3 v4 v5) x (m 6 hl.symm)
 |[v0,v1,v2,v3,v4,v5,v6],hl=>exact cQ.mp (V7 P v0 v1 v2 v3 v4 v5 v6) x (m 7 hl.symm)
 |_::_::_::_::_::_::_::_::r,hl=>rw[<-hl] at b;simp only[aV] at b;exact absurd b (by omega)
theorem lookup_at{g:Nat->Obj}{r:fq}{b:Nat}:∀{l:List Nat},b∈l->((l.map λb=>(b,g b))++r).lookup b=some (g b)
 |x::l,h=>by
  show(match b==x with|true=>some (g x)|false=>((l.map λb=>(b,g b))++r).lookup b)=some (g b);cases q:b==x with
  |true=>rw[beq_iff_eq.mp q]
  |false=>
   rcases bE.mp h with e|h
   ·rw[e,beq_self_eq_true] at q;cases q
   ·exact lookup_at h
theorem u_{g:Nat->Obj}{r:fq}{b:Nat}:∀{l:List Nat},b∉l->((l.map λb=>(b,g b))++r).lookup b=r.lookup b
 |[],_=>rfl
 |x::l,h=>by
  show(match b==x with|true=>some (g x)|false=>((l.map λb=>(b,g b))++r).lookup b)=_;cases q:b==x with
  |true=>exact absurd (beq_iff_eq.mp q▸yb) h
  |false=>exact u_ λm=>h (.tail _ m)
theorem Nw{P:bg}{a b:Nat}{o:Obj}(h:b<995):(KK P a o).lookup b=some (gO P b):=lookup_at (Cb.mpr h)
theorem Ou{P:bg}{a:Nat}{o:Obj}(h:995<=a):(KK P a o).lookup a=some o:=by
 unfold KK;rw[u_ λm=>iH _ (a_ (Cb.mp m) h)];show(match a==a with|true=>some o|false=>none)=_;rw[beq_self_eq_true]
theorem WG{P:bg}{a:Nat}{o:Obj}{h:Heap}(h1:∀b,b<995->h.get? b=some (gO P b))(h2:h.get? a=some o):(KK P a o).In h:=λb x e=>by
 by_cases q:b<995
 ·rw[Nw q] at e;cases e;exact h1 b q
 ·unfold KK at e;rw[u_ λm=>q (Cb.mp m)] at e;have e:(match b==a with|true=>some o|false=>none)=some x:=e;cases z:b==a with
  |true=>rw[z] at e;cases e;rw[beq_iff_eq.mp z];exact h2
  |false=>rw[z] at e;cases e
theorem Hy{P:bg}{a:Nat}{o:Obj}:Ke (KK P a o)=a:=by
 unfold Ke KK;rw[JQ];rfl
theorem O0{P:bg}{a:Nat}{c:Value}{d:Option Addr}{b:Array Value}{n:Nat}{sl:Array (Option Value)}:FR (KK P a ⟨c,d,.seq b n,sl⟩)=(b.toList.take 24).map Pu:=by
 unfold FR KK;rw[JQ];rfl
noncomputable def nmB(K:fq)(x:Str)(v:Value):Bool:=nsIn K mainGlobals x==some (some v) ||(nsIn K mainGlobals x==some none&&(bootBuiltins x==some v&&x != "__name__"))
theorem Fu{K:fq}{x:Str}{v:Value}(h:nmB K x v=true):xP K x v:=by
 rcases nE.mp h with h|h
 ·exact .inl (beq_iff_eq.mp h)
 ·have a:=ag.mp h;have b:=ag.mp a.2;exact .inr ⟨beq_iff_eq.mp a.1,beq_iff_eq.mp b.1,by simpa using b.2⟩
def Ws(K:fq):E8->Bool
 | .fn f=>IF K (.ref f)
 | .cls C i=>IF K (.ref C) &&(makesIn K C&&(findIn K (.ref C) "__init__" ==some (some (.ref i)) &&(isFn K (.ref i) &&rU K C)))
 |_=>true
theorem Ox{K:fq}{c:E8}(h:Ws K c=true):ND K c:=by
 cases c with
 |fn f=>exact h
 |cls C i=>
  have a:=ag.mp h;have b:=ag.mp a.2;have c:=ag.mp b.2;have d:=ag.mp c.2;exact⟨a.1,b.1,beq_iff_eq.mp c.1,d.1,d.2⟩
 |_=>trivial
def gB(K:fq)(x:Str):GE->Bool
 | .call c=>nmB K x (G_ c) &&Ws K c
 | .int i=>(match nsIn K mainGlobals x with
   |some (some (.int j _))=>i==j
   |_=>false)
 | .exc C=>nsIn K mainGlobals x==some (some (.ref C)) &&excIn K C Kt "Exception.__new__"
 | .nC=>nmB K x (.type "range")
@[irreducible] def gL:List (Str×GE):=Qx.map λp=>(eP p.1,p.2)
theorem abv(P:bg)(b:Nat)(o:Obj):gL.map (λp=>gB (KK P b o) p.1 p.2)=gL.map (λ_=>true):=by kernel_rfl
@[irreducible] def mL:List (Addr×Nat×Addr):=Qv.flatMap λp=>p.2.map λq=>(p.1,q)
theorem allM(P:bg)(b:Nat)(o:Obj):mL.map (λp=>findIn (KK P b o) (.ref p.1) (Aa p.2.1) ==some (some (.ref p.2.2)) &&(isFn (KK P b o) (.ref p.2.2) &&IF (KK P b o) (.ref p.2.2)))=mL.map (λ_=>true):=by kernel_rfl
section
variable{P:bg}{b:Nat}{o:Obj}
theorem YW{x:Str}{g:GE}(h:aH.glob x=some g):gB (KK P b o) x g=true:=cQ.mp (abv P b o) (x,g) ((by unfold gL;exact mem_of_lookup h))
theorem Lz:zP aH (KK P b o):=⟨λx C h=>by
 have a:=ag.mp (YW (P:=P) (b:=b) (o:=o) h);exact⟨beq_iff_eq.mp a.1,a.2⟩⟩
theorem Wz:BG aH:=⟨λ_ _ h=>beq_iff_eq.mp h⟩
theorem tabsOk{d:Array Value}{g:Option Addr}{n:Nat}{sl:Array (Option Value)}(q:995<=b)(p:∀v∈d.toList,∃i t,v=.int i t)(k:d.size<=63):TabsOk aH (KK P b ⟨.type "list",g,.seq d n,sl⟩) where
 call x c h:=by
  have a:=ag.mp (YW (P:=P) (b:=b) (o:=⟨.type "list",g,.seq d n,sl⟩) h);exact⟨Fu a.1,Ox a.2⟩
 int x i h:=by
  have a:(match nsIn (KK P b ⟨.type "list",g,.seq d n,sl⟩) mainGlobals x with
   |some (some (.int j _))=>i==j
   |_=>false)=true:=YW (P:=P) (b:=b) (o:=⟨.type "list",g,.seq d n,sl⟩) h
  split at a
  ·rename_i j t e;exact⟨t,.inl (by rw[e,beq_iff_eq.mp a])⟩
  ·cases a
 exc x C h:=⟨(Lz.exc x C h).1,_,_,(Lz.exc x C h).2⟩
 nC x h:=Fu (YW (P:=P) (b:=b) (o:=⟨.type "list",g,.seq d n,sl⟩) h)
 bp C m f h:=by
  obtain ⟨l,h1,h2⟩:=Option.bind_eq_some_iff.mp h
  have a:=ag.mp (cQ.mp (allM P b ⟨.type "list",g,.seq d n,sl⟩) (C,m,f) (by unfold mL;exact List.mem_flatMap.mpr ⟨(C,l),mem_of_lookup h1,cK.mpr ⟨(m,f),mem_of_lookup h2,rfl⟩⟩));have c:=ag.mp a.2;exact⟨beq_iff_eq.mp a.1,c.1,c.2⟩
 JT:=⟨d,λh X=>by rw[Hy];exact⟨_,X _ _ (Ou q),rfl,n,rfl⟩,p,O0,k⟩
theorem abD{x:Fx}{ext:List Value}(i:x∈Jg)(j:∀(s:Shared)(c:List Value),(KK P b o).In s.heap->c.length+ext.length=(xF P x.f).length->BindsTo s (fD P x.f) ⟨c,[]⟩ ((xF P x.f).zip (c++ext))):
  VH (KK P b o) x.f (bF P x.f) (fD P x.f).scope (xF P x.f) ext:=by
 have h:=ag.mp (cQ.mp (Lq P b o) x i);have h2:=ag.mp h.2;have a:=ag.mp h.1;have g:=ag.mp a.2;have e:=ag.mp g.2;have d:=ag.mp e.2;exact⟨⟨_,_,Nw (Nat.blt_eq.mp h2.1),Si a.1,Sp d.2,rfl,beq_iff_eq.mp g.1,List.isEmpty_iff.mp e.1,beq_iff_eq.mp d.1,(ag.mp h2.2).1,j⟩⟩
end
section
variable{w:bY}{b:Nat}{aQ:Array Value}{dd:Option Addr}{n:Nat}{sl:Array (Option Value)}
abbrev KL(P:bg)(b:Nat)(dd:Option Addr)(aQ:Array Value)(n:Nat)(sl:Array (Option Value)):fq:=KK P b ⟨.type "list",dd,.seq aQ n,sl⟩
theorem bd(u:995<=b)(q:∀v∈aQ.toList,∃i t,v=.int i t)(p:aQ.size<=63){x:Fx}(d:x∈Jg){ext:List Value}{xext:List V}(c:∀h,bU h ext xext)(hl:ext.length=xext.length)(A:∀(s:Shared)(vs:List Value),(KL w.params b dd aQ n sl).In s.heap->vs.length+ext.length=(xF w.params x.f).length->BindsTo s (fD w.params x.f) ⟨vs,[]⟩ ((xF w.params x.f).zip (vs++ext))):
  Bd HD.pw w (KL w.params b dd aQ n sl) x.f x.k xext x.ms:=λm e H Q X r h=>by
 have a:=ag.mp (cQ.mp (Lq w.params b ⟨.type "list",dd,.seq aQ n,sl⟩) x d);have z:=ag.mp a.2;have y:=ag.mp z.2;have o:=ag.mp y.2;have l:=ag.mp o.2;have j:=ag.mp l.2;have g:=ag.mp j.2;exact Bo (tabsOk u q p) Lz Wz (abD d A) c l.1 j.1 g.1 (by rw[u0 o.1];exact r) (cQ.mp (XH w.params) x d) g.2 h
theorem bd0(g:995<=b)(d:∀v∈aQ.toList,∃i t,v=.int i t)(c:aQ.size<=63){x:Fx}(h:x∈Jg)(e:ip x.f 201=false):Bd HD.pw w (KL w.params b dd aQ n sl) x.f x.k [] x.ms:=
 bd g d c h (λ_=>.nil) rfl λs l _ hl=>by
  have a:=ag.mp (cQ.mp (Lq w.params b ⟨.type "list",dd,.seq aQ n,sl⟩) x h);have j:=ag.mp (ag.mp (ag.mp a.2).2).2;rw[bb];exact BindsTo.of_eq (bindAll w.params h (tL e) (by rw[<-u0 j.1];exact hl))
theorem RX(P:bg):gO P 194=⟨.type "tuple",none,.seq #[.int 0 432] 0,#[]⟩:=by kernel_rfl
theorem MW{s:Shared}{d:FuncData}{p1 p2 p3:Pos}{de:List di}{u v:Value}(a:d.params=⟨[],[⟨"self",none,p1⟩,⟨"data",none,p2⟩,⟨"at",none,p3⟩],none,[],[],none,de⟩)(b:d.defaults=.ref 194)(h:s.heap.get? 194=some ⟨.type "tuple",none,.seq #[.int 0 432] 0,#[]⟩):
  BindsTo s d ⟨[u,v],[]⟩ [("self",u),("data",v),("at",.int 0 432)]:=by
 cases d;cases a;cases b;exact BindsTo.of_defaults (T:=194) rfl h rfl rfl rfl
end
end Mine
end
section
open PySem PySem.W PyProof.Rows PySem.Challenge
namespace Mine
section
variable{w:bY}{b:Nat}{aQ:Array Value}{dd:Option Addr}{n:Nat}{sl:Array (Option Value)}
theorem Mw(i:Nat){x:Fx}(h:Jg[i]?=some x):x∈Jg:=JP h
theorem R4{l:List Value}(h:l.length=2):∃a b,l=[a,b]:=by
 cases l with
 |nil=>cases h
 |cons a l=>
  cases l with
  |nil=>cases h
  |cons b l=>
   cases l with
   |nil=>exact⟨a,b,rfl⟩
   |cons=>cases h
theorem Xg(j:995<=b)(d:∀v∈aQ.toList,∃i t,v=.int i t)(c:aQ.size<=63):Bd HD.pw w (KL w.params b dd aQ n sl) 201 3 [.int 0] jd:=
 bd (x:=⟨201,3,jd,oK⟩) (ext:=[.int 0 432]) (xext:=[.int 0]) j d c (Mw 8 (by kernel_rfl)) (λh=>.cons (.int 0 432) .nil) rfl λs a X hl=>by
  have e:xF w.params 201=[("self":Str),"data","at"]:=by kernel_rfl
  have hl:a.length+1=3:=by rw[show(⟨201,3,jd,oK⟩:Fx).f=201 from rfl,e] at hl;exact hl
  have g:=X 194 _ (Nw (by decide));rw[RX] at g;show BindsTo s (fD w.params 201) ⟨a,[]⟩ ((xF w.params 201).zip (a++[.int 0 432]));erw[gR (R4 (Nat.succ.inj hl)),(u v k),aj k,aj e,<-MW (p1:=((fD w.params 201).params.args.getD 0 default).pos) (p2:=((fD w.params 201).params.args.getD 1 default).pos) (p3:=((fD w.params 201).params.args.getD 2 default).pos) (de:=(fD w.params 201).params.defaults) (by kernel_rfl) (by kernel_rfl) g]
theorem fK(e:995<=b)(c:∀v∈aQ.toList,∃i t,v=.int i t)(a:aQ.size<=63)(i:Nat){x:Fx}(h:Jg[i]?=some x)(d:ip x.f 201=false):Bd HD.pw w (KL w.params b dd aQ n sl) x.f x.k [] x.ms:=bd0 e c a (Mw i h) d
theorem Xh(c:995<=b)(a:∀v∈aQ.toList,∃i t,v=.int i t)(h:aQ.size<=63):Rd HD.pw w (KL w.params b dd aQ n sl) where
 vT:=fK c a h 0 (x:=⟨137,2,mQ,tf⟩) (by kernel_rfl) rfl
 yi:=fK c a h 1 (x:=⟨144,4,oO,uU⟩) (by kernel_rfl) rfl
 zJ:=fK c a h 2 (x:=⟨151,1,qd,wm⟩) (by kernel_rfl) rfl
 yf:=fK c a h 3 (x:=⟨158,2,oP,uB⟩) (by kernel_rfl) rfl
 vY:=fK c a h 4 (x:=⟨165,1,nk,sj⟩) (by kernel_rfl) rfl
 uT:=fK c a h 5 (x:=⟨172,2,lI,qN⟩) (by kernel_rfl) rfl
 uo:=fK c a h 6 (x:=⟨179,1,lK,qF⟩) (by kernel_rfl) rfl
 ur:=fK c a h 7 (x:=⟨186,2,lD,qY⟩) (by kernel_rfl) rfl
 ye:=Xg c a h
 yF:=fK c a h 9 (x:=⟨208,1,oN,uv⟩) (by kernel_rfl) rfl
 uk:=fK c a h 10 (x:=⟨215,1,lL,qB⟩) (by kernel_rfl) rfl
 qt:=fK c a h 11 (x:=⟨236,1,jS,n_⟩) (by kernel_rfl) rfl
 yz:=fK c a h 12 (x:=⟨250,1,o5,ux⟩) (by kernel_rfl) rfl
 yB:=fK c a h 13 (x:=⟨264,1,oF,uF⟩) (by kernel_rfl) rfl
 BB:=fK c a h 14 (x:=⟨285,1,rS,yU⟩) (by kernel_rfl) rfl
 yO:=fK c a h 15 (x:=⟨292,2,oR,uI⟩) (by kernel_rfl) rfl
 uu:=fK c a h 16 (x:=⟨313,2,lJ,qK⟩) (by kernel_rfl) rfl
 BH:=fK c a h 17 (x:=⟨327,2,sM,yd⟩) (by kernel_rfl) rfl
 BE:=fK c a h 18 (x:=⟨341,1,s6,yP⟩) (by kernel_rfl) rfl
 rising:=fK c a h 19 (x:=⟨355,1,Am,Eb⟩) (by kernel_rfl) rfl
 AO:=fK c a h 20 (x:=⟨362,1,qr,wz⟩) (by kernel_rfl) rfl
 AA:=fK c a h 21 (x:=⟨376,5,pU,vR⟩) (by kernel_rfl) rfl
 BN:=fK c a h 22 (x:=⟨383,1,sO,yI⟩) (by kernel_rfl) rfl
 AE:=fK c a h 23 (x:=⟨390,1,pM,wh⟩) (by kernel_rfl) rfl
 uH:=fK c a h 24 (x:=⟨397,1,lE,qD⟩) (by kernel_rfl) rfl
 Ah:=fK c a h 25 (x:=⟨404,1,pZ,wc⟩) (by kernel_rfl) rfl
 vX:=fK c a h 26 (x:=⟨418,1,nq,te⟩) (by kernel_rfl) rfl
 wQ:=fK c a h 27 (x:=⟨425,1,ny,sQ⟩) (by kernel_rfl) rfl
 zS:=fK c a h 28 (x:=⟨432,2,qf,v_⟩) (by kernel_rfl) rfl
 sX:=fK c a h 29 (x:=⟨446,6,kj,ph⟩) (by kernel_rfl) rfl
 uz:=fK c a h 30 (x:=⟨453,1,lO,qH⟩) (by kernel_rfl) rfl
 sk:=fK c a h 31 (x:=⟨460,1,ko,pg⟩) (by kernel_rfl) rfl
 Hu:=fK c a h 32 (x:=⟨474,2,xK,BY⟩) (by kernel_rfl) rfl
 EH:=fK c a h 33 (x:=⟨481,1,vm,zI⟩) (by kernel_rfl) rfl
 yt:=fK c a h 34 (x:=⟨488,1,oS,uL⟩) (by kernel_rfl) rfl
 yx:=fK c a h 35 (x:=⟨495,1,oD,uS⟩) (by kernel_rfl) rfl
 uN:=fK c a h 36 (x:=⟨509,5,lG,qC⟩) (by kernel_rfl) rfl
 wo:=fK c a h 37 (x:=⟨516,1,mP,sF⟩) (by kernel_rfl) rfl
 uK:=fK c a h 38 (x:=⟨530,1,lT,qu⟩) (by kernel_rfl) rfl
 qP:=fK c a h 39 (x:=⟨544,1,jO,oo⟩) (by kernel_rfl) rfl
 qw:=fK c a h 40 (x:=⟨551,1,jT,nW⟩) (by kernel_rfl) rfl
 wV:=fK c a h 41 (x:=⟨565,5,mV,rX⟩) (by kernel_rfl) rfl
 yr:=fK c a h 42 (x:=⟨570,1,oM,uY⟩) (by kernel_rfl) rfl
 wJ:=fK c a h 43 (x:=⟨575,1,mK,rY⟩) (by kernel_rfl) rfl
 sL:=fK c a h 44 (x:=⟨589,1,kn,pH⟩) (by kernel_rfl) rfl
 rQ:=fK c a h 45 (x:=⟨596,1,kN,pG⟩) (by kernel_rfl) rfl
 v8:=fK c a h 46 (x:=⟨610,7,mZ,se⟩) (by kernel_rfl) rfl
 yk:=fK c a h 47 (x:=⟨617,1,oV,uq⟩) (by kernel_rfl) rfl
 tn:=fK c a h 48 (x:=⟨624,1,km,pF⟩) (by kernel_rfl) rfl
 BO:=fK c a h 49 (x:=⟨638,2,sg,yg⟩) (by kernel_rfl) rfl
 zR:=fK c a h 50 (x:=⟨645,1,pP,vP⟩) (by kernel_rfl) rfl
 s_:=fK c a h 51 (x:=⟨652,1,kK,pB⟩) (by kernel_rfl) rfl
 uD:=fK c a h 52 (x:=⟨666,2,lC,qT⟩) (by kernel_rfl) rfl
 md:=fK c a h 53 (x:=⟨687,2,hU,kh⟩) (by kernel_rfl) rfl
 mR:=fK c a h 54 (x:=⟨694,3,iF,k_⟩) (by kernel_rfl) rfl
 hK:=fK c a h 55 (x:=⟨715,2,eY,gq⟩) (by kernel_rfl) rfl
 uC:=fK c a h 56 (x:=⟨722,3,lF,qA⟩) (by kernel_rfl) rfl
 vQ:=fK c a h 57 (x:=⟨729,1,mO,sU⟩) (by kernel_rfl) rfl
 K5:=fK c a h 58 (x:=⟨743,2,sA,yE⟩) (by kernel_rfl) rfl
 Nb:=fK c a h 59 (x:=⟨750,1,rJ,yH⟩) (by kernel_rfl) rfl
 EZ:=fK c a h 60 (x:=⟨757,1,o8,uj⟩) (by kernel_rfl) rfl
 K0:=fK c a h 61 (x:=⟨764,1,sV,yQ⟩) (by kernel_rfl) rfl
 QN:=fK c a h 62 (x:=⟨769,1,vz,zY⟩) (by kernel_rfl) rfl
 KX:=fK c a h 63 (x:=⟨776,1,ti,yl⟩) (by kernel_rfl) rfl
 Iw:=fK c a h 64 (x:=⟨783,2,pT,vO⟩) (by kernel_rfl) rfl
 wB:=fK c a h 65 (x:=⟨790,2,jI,nX⟩) (by kernel_rfl) rfl
 Ht:=fK c a h 66 (x:=⟨797,1,qk,wO⟩) (by kernel_rfl) rfl
 MU:=fK c a h 67 (x:=⟨804,3,u7,Az⟩) (by kernel_rfl) rfl
 Fy:=fK c a h 68 (x:=⟨811,3,sG,yu⟩) (by kernel_rfl) rfl
 B3:=fK c a h 69 (x:=⟨818,1,mS,rZ⟩) (by kernel_rfl) rfl
 wI:=fK c a h 70 (x:=⟨825,1,jQ,nZ⟩) (by kernel_rfl) rfl
 KO:=fK c a h 71 (x:=⟨832,1,rM,yA⟩) (by kernel_rfl) rfl
 HK:=fK c a h 72 (x:=⟨837,3,qs,vV⟩) (by kernel_rfl) rfl
 pA:=fK c a h 73 (x:=⟨844,2,nt,sR⟩) (by kernel_rfl) rfl
 NG:=fK c a h 74 (x:=⟨849,1,s8,yw⟩) (by kernel_rfl) rfl
 B7:=fK c a h 75 (x:=⟨854,1,m_,rP⟩) (by kernel_rfl) rfl
 uE:=fK c a h 76 (x:=⟨859,1,jr,mU⟩) (by kernel_rfl) rfl
 AK:=fK c a h 77 (x:=⟨864,1,lN,qU⟩) (by kernel_rfl) rfl
 rO:=fK c a h 78 (x:=⟨871,1,iU,lX⟩) (by kernel_rfl) rfl
 HH:=fK c a h 79 (x:=⟨878,1,qp,w8⟩) (by kernel_rfl) rfl
 QQ:=fK c a h 80 (x:=⟨885,3,u9,zW⟩) (by kernel_rfl) rfl
 Hk:=fK c a h 81 (x:=⟨892,2,pW,wU⟩) (by kernel_rfl) rfl
 NT:=fK c a h 82 (x:=⟨899,3,sT,yS⟩) (by kernel_rfl) rfl
 BU:=fK c a h 83 (x:=⟨906,1,mW,sY⟩) (by kernel_rfl) rfl
 HG:=fK c a h 84 (x:=⟨913,1,pO,wi⟩) (by kernel_rfl) rfl
 oi:=fK c a h 85 (x:=⟨920,1,gQ,jG⟩) (by kernel_rfl) rfl
 sJ:=fK c a h 86 (x:=⟨925,3,iV,l_⟩) (by kernel_rfl) rfl
 wq:=fK c a h 87 (x:=⟨932,3,jM,om⟩) (by kernel_rfl) rfl
 DT:=fK c a h 88 (x:=⟨939,3,oQ,uM⟩) (by kernel_rfl) rfl
 Ak:=fK c a h 89 (x:=⟨946,2,lH,qI⟩) (by kernel_rfl) rfl
 qJ:=fK c a h 90 (x:=⟨953,3,iA,kY⟩) (by kernel_rfl) rfl
 pj:=fK c a h 91 (x:=⟨960,2,hW,j9⟩) (by kernel_rfl) rfl
 lZ:=fK c a h 92 (x:=⟨967,2,f_,je⟩) (by kernel_rfl) rfl
 Hw:=fK c a h 93 (x:=⟨972,2,qm,vK⟩) (by kernel_rfl) rfl
 uy:=fK c a h 94 (x:=⟨977,4,jo,mY⟩) (by kernel_rfl) rfl
 rK:=fK c a h 95 (x:=⟨982,2,iT,lY⟩) (by kernel_rfl) rfl
 Km:=fK c a h 96 (x:=⟨989,7,tg,yN⟩) (by kernel_rfl) rfl
 law:=fK c a h 97 (x:=⟨994,1,HJ,Qw⟩) (by kernel_rfl) rfl
end
theorem JB{R:WRecords}{y:WData}{ys:List WData}{e:WShape}:rI R (y::ys) e=(WShape.has R y e&&rI R ys e):=by simp only[rI]
theorem F9{R:WRecords}{cl:Str->Option Addr}{h:Heap}:∀{xs:List WData} {vs:List Value} {as:List Addr},ReadsAllW R cl h vs xs as->rI R xs .int=true->∀v∈vs,∃i t,v=.int i t:=by
 intro xs
 induction xs with
 |nil=>
  intro vs as r q v m;rw[(readsAllW_nil_inv r).1] at m;exact nomatch m
 |cons x xs c=>
  erw[(vs as r q v m),iR (readsAllW_cons_inv r),(u us g f e1 _ a b)];rw[e1] at m;have q:=ag.mp (JB.symm.trans q);erw[<-(bE.mp m).elim (λe=>?_) λm=>c b q.2 v m,bf (hasW_int q.1),(i d)];rw[d] at a;exact⟨i,(readsW_int_inv a).imp λt z=>e.trans z.1⟩
theorem Rz{xs:List WData}(h:(OpenLaw.pre rw_xm0855_01).holds [] {args:=[.list xs]}=true):xs.length<=63:=by
 delta OpenLaw.pre rw_xm0855_01 at h;simp[WTm.holds,WTm.value,less?,Num.less?] at h
 by_cases q:(63:Int)<xs.length
 ·rw[decide_eq_true q] at h;cases h
 ·omega
theorem R8(P:bg):ks.map (λb=>(gO P b).isFreed)=ks.map λ_=>false:=by kernel_rfl
theorem UG(P:bg){b:Nat}(h:b<995):(HD.HF P).get? b=some (gO P b):=by
 refine x_.mpr ⟨?_,?_⟩
 ·unfold HD.HF gO;rw[absHeap_at,if_pos h]
 ·have:=cQ.mp (R8 P) b (Cb.mpr h)
  simpa using this
theorem OB(P:bg):(HD.HF P).objs.size=995:=by unfold HD.HF;exact absHeap_size _ _ _
theorem Lb{K:fq}{B:Heap}{s:Shared}(st:xV K B)(k:B.StaysIn s.heap)(c:s.gens=#[]):hJ K B [] s.os (λ_=>none) s:=by
 have n:∀a,¬FP (λ_=>none) s.heap a:=λa f=>by
  rcases f with f|⟨x,y,z⟩
  ·exact f rfl
  ·cases y
 exact⟨st,k,⟨λa m h=>(nomatch h),λx y d h=>(nomatch h),λx d h=>(nomatch h)⟩,λa f=>absurd f (n a),λp b=>(nomatch b),c,rfl⟩
noncomputable abbrev TV:RowW:=rw_xm0855_01.row.toRowW
theorem PQ:Ai [] []:=λe h=>nomatch h
theorem ar0:Ar callerA [] 13:=⟨rfl,rfl,by decide,by decide⟩
theorem called(w:bY){a:Shared}{m f:Str->Option Value}(T:TopRead HD.qv (looseW HD.qv HD.GK) m f a.heap)(p:∀b,b<995->a.heap.get? b=some (gO w.params b))(s:a.gens=#[]){l:Addr}{d:Option Addr}{c:Array Value}{n:Nat}{sl:Array (Option Value)}(hl:a.heap.get? l=some ⟨.type "list",d,.seq c n,sl⟩)(u:995<=l)(k:∀v∈c.toList,∃i t,v=.int i t)(j:c.size<=63):
  m "law"=some (.ref 994)/\bO (model HD.pw w) callerA (call (.ref 994) [.ref l]) (λv s'=>v=.bool true/\a.heap.StaysIn s'.heap/\s'.os=a.os/\s'.gens=#[]) (λ_ _=>False) a:=by
 have X:(KL w.params l d c n sl).In a.heap:=WG p hl;have e:nsIn (KL w.params l d c n sl) mainGlobals "law"=some (some (.ref 994)):=by
  have:=ag.mp (YW (P:=w.params) (b:=l) (o:=⟨.type "list",d,.seq c n,sl⟩) (x:= "law") (g:=.call (.fn 994)) (by kernel_rfl));rcases Fu this.1 with h|h
  ·exact h
  ·exact absurd h.2.1 (by rw[show bootBuiltins "law"=none from by kernel_rfl];exact λq=>nomatch q)
 refine⟨mg_of X T.g e,sI (kR (TY (Q:=λv _=>v=.bool true) (X:=λ_ _=>False) (Xh u k j) (n:=13) (H:=λ_=>none) rfl (λ_=>rfl) a.heap [] a.os [] callerA a [.ref l] ar0 PQ
  (Lb ⟨X,HD.qv,_,m,f,T⟩ (λ_ _ e=>e) s) (.cons (by rw[Hy];exact .ref l) .nil)) λr s' z=>?_)⟩
 rcases r with e|(_|_|_|v)
 ·obtain ⟨_,_,_,_,_,x,_⟩:=z;exact x
 ·exact z
 ·exact z
 ·exact z
 ·obtain ⟨x,H',r,q,S⟩:=z
  cases q;exact⟨r.inv,S.stays,S.os,S.gens⟩
noncomputable abbrev Mh:Ctx:=⟨.builtin "claim.caller" {},none,none,[],none⟩
theorem done{w:bY}{b:Shared}{m:Str->Option Value}{vs:List Value}{R:Dy->Shared->Prop}(d:b.heap.Ns mainGlobals m)(g:m "law"=some (.ref 994))(h:bO (model HD.pw w) callerA (call (.ref 994) vs) (λv s'=>R (.ok (.ret v)) s'/\s'.gens=#[]) (λ_ _=>False) b):
  Sem.wp (model HD.pw w) Mh (callStub "law" vs).cur (Sem.finPost (model HD.pw w) Mh λr s'=>R r s'/\w_ s'.gens=false) (λe _ s'=>R (.error e) s'/\w_ s'.gens=false) default b:=by
 have t:bO (model HD.pw w) callerA (callStub "law" vs).cur (λa s'=>∃f,a=.done f/\(R (.ok f) s'/\w_ s'.gens=false)) (λe s'=>R (.error e) s'/\w_ s'.gens=false) b:=by
  refine az (bc (wpAny_nsGet d ?_));rw[g];exact az (p_mono h (λv s' z=>bj ⟨_,rfl,z.1,by rw[z.2];exact leftWithCleanup_false_of_bare AllBare.empty⟩) λ_ _ z=>z.elim)
 refine vI (model HD.pw w) Mh _ (λa p s' z=>?_) (λ_ _ _ z=>z) default b (t Mh default caller_in (by decide+kernel) λx c=>nomatch c)
 obtain ⟨f,rfl,z⟩:=z
 exact z
theorem aaK{w:bY}{s:Shared}(h:s.heap.isNs mainGlobals=true)(G:Ground HD.qv HD.GK [] (λ_ _=>True) w s (s.heap.nsMap mainGlobals) (s.heap.nsMap nG) s.heap):isTheDefsW HD.pw s.heap "law":=by
 have h1:(defOf HD.qv "law").map (λe=>some (e.1.params,e.1.body,e.1.scope))=some (HD.pw.theDef "law"):=by kernel_rfl
 have h2:(defOf HD.qv "law").map (λe=>kwWritten? e.1.params.kwonlyargs e.1.params.kw_defaults)=(defOf HD.qv "law").map λe=>some e.2:=by kernel_rfl
 cases q:defOf HD.qv "law" with
 |none=>rw[q] at h1;cases h1
 |some e=>
  obtain ⟨d,kwd⟩:=e
  rw[q] at h1 h2;exact pinned_of_view h G q (bV h1).symm (bV h2)
theorem Rg:chainsOk HD.qv=true:=by kernel_rfl
theorem WQ:opensWell HD.pw=true:=by kernel_rfl
theorem Xa:HD.pw.bare:=⟨rfl,rfl,rfl,rfl,rfl,by decide+kernel⟩
theorem Ri{P:Prop}{w:bY}{s:Shared}{W X:Str->Option Value}(hz:s.asleep)(Ij:s.gens=#[])(G:Ground HD.qv HD.GK [] (λ_ _=>True) w s W X s.heap)(y:s.heap=HD.HF w.params){args:List WData}{ord:List dz->List dz}(p:TV.claim.pre args=true)(t:WData.layableAll args=true)(O:∀l,(ord l).Perm l)(C:∀vs J k r s3,layAllW [] (classAt s.heap) w.params ord args s=some (vs,J)->schedN (denote table) HD.pw w k (.single J (callStub "law" vs))=.halted (outcomeOf r) s3->TV.claim.Ends s args vs J r s3->s3.heap.life.seen=s.heap.life.seen->s3.rest=s.rest->P):P:=by
 have j:=pre_splitW (r:=TV) p;erw[bf (js.mp (layAllW_isSome (P:=w.params) (ord:=ord) G.has args TV.args s j.1)),(F E)];have h:=layAllW_keeps _ _ _ E;have i:=layAllW_rest _ _ _ E;erw[cY (reads_layAllW O _ _ _ E t F.2.heap (λ_ _ e=>e)),(as m x q)];have L:Laid [] w s F.2 args F.1 as:=⟨⟨ord,O,E⟩,m,x,q,h,i.1.trans Ij,i.2.2.1⟩;erw[dg (hasAllW_cons j.1),(d r A hd hr),ay (hasW_list hd),(B ed hx)];have A:args=[.list B]:=by rw[A,ed,hasAllW_nil hr]
 rw[A] at m;erw[iR (readsAllW_cons_inv m),(v vr a1 a2 e1 e2 U S),Ro (readsW_list_open U),(l o Q n ai I D hc J1 u e4)];have I:F.1=[.ref l]:=by rw[e1,I,(readsAllW_nil_inv S).1]
 have Y:995<=l:=by
  have:=(x.2.2 l (by rw[e2,e4];exact .head _)).1;rw[y,OB] at this;exact this
 have V:=G.keeps (λ_ _ _ _ _=>trivial) h;have We:Q.size<=63:=by
  have:=Rz (xs:=B) (by rw[<-A];exact j.2);rw[<-u.length] at this
  simpa using this
 have D:F.2.heap.get? l=some ⟨.type "list",o.dict,.seq Q n,o.slots⟩:=by rw[<-hc,<-J1];exact D
 have c:=called w (topRead_of V.T) (λb hb=>h b _ (by rw[y];exact UG _ hb)) L.gens D Y (F9 u hx) We;refine iR (wp_halts_full (M:=model HD.pw w) (c:=.builtin "claim.caller" {}) (R:=λr N=>GoodWG TV.claim (classAt s.heap) (ExcName.means s.heap) args F.2 r N) (Shared.asleep_of_life i.2.2.2 hz)
  (done (vs:=F.1) V.T.g c.1 (by
   rw[I];exact p_mono c.2 (λv N z=>⟨⟨.inl ⟨v,.bool true,[],rfl,λ_=>rfl,by rw[z.1];exact .bool true,by rw[A];kernel_rfl,λ_=>⟨pa,λa ha=>nomatch ha⟩⟩,.of_keep z.2.1,z.2.2.1,.of_eq z.2.2.2⟩,z.2.2.2⟩) λ_ _ z=>z))) ?_
 intro k r s2 s3 UL K H hR;have f:=Shared.forget_eq H;have z:=hR.laid (c:=TV.claim) rfl rfl (ident_freeW rfl rfl rfl) L;exact C F.1 F.2 k r s3 E UL (z.1.congr f.1) (by rw[(runN_life _ _ _ K).trans i.2.2.2]) (Shared.rest_eq (f.2.2.2.1.trans z.2.1))
theorem Rt:TV.claim.HoldsOpenBy (callStub "law") ["law"] rw_xm0855_01.row.keeps false:=by
 refine⟨⟨Xa,WQ,rfl⟩,⟨[.list []],by decide+kernel,by decide+kernel⟩,λw=>?_⟩;have left:=HD.Wi.behind (XP:=λ_ _=>True) (λ_ _=>trivial) Rg w;refine⟨left.1,λl f=>(left.2 l f).imp λB z=>⟨z.1,z.2.1,z.2.2.imp λs z=>?_⟩⟩;have t:=z.2.2.2.1;have G:=z.2.2.2.2.1;have I:s.gens=#[]:=Array.eq_empty_of_size_eq_zero (beq_iff_eq.mp z.2.2.1);exact⟨z.1,(λn p=>by rw[aR.mp p];exact aaK t G),(λx h=>nomatch h),(λx h=>nomatch h),λg a c m P=>Ri z.2.1 I G z.2.2.2.2.2 a c P λj A k r s3 h1 h2 h3 h4 h5=>
  ⟨j,A,h1,k,_,s3,h2,Or.imp (By λv=>And.imp (congrArg outcomeOf) (jF (jF (jF (And.imp_left λd b o y _=>d b o y))))) (By λe=>By λC=>By λu=>And.imp (congrArg outcomeOf) (jF (jF (jF (jF λd b o y _=>d b o y))))) h3,
   (λ_ i x h=>by rw[I] at h;simp at h),(λq=>nomatch q),h4,h5⟩⟩
end Mine
end
section
open PySem PySem.W PyProof.Rows PySem.Challenge
namespace Mine.HD
noncomputable abbrev lw:=rw_xm0855_01
theorem ws0:sreFenced lw.row.prog.main=true:=by kernel_rfl
theorem ws1:((moduleNames lw.row.prog.main.body).isEmpty||lookedIntoSs (moduleNames lw.row.prog.main.body) lw.row.prog.main.body)=true:=by kernel_rfl
theorem ws2:namesResolve lw.row.prog=true:=by kernel_rfl
theorem ws3:(lw.row.prog.boundNames.all λn=>!worldNames.contains n)=true:=by kernel_rfl
theorem ws4:noRoadLSs {strict:=!(importedModules lw.row.prog.main.body).all cThrough.contains,foot:=none,bare:=(["vars","dir","locals"]:List Str).filter (readsOut lw.row.prog lw.row.prog.main.body)} lw.row.prog.main.body=true:=by kernel_rfl
theorem ws5:(namesMeet lw.row.prog lw.row.prog.main.body λ_ n=>attrL n)=true:=by kernel_rfl
theorem ws6:lw.row.prog.boundNames.contains lw.row.name=true:=by kernel_rfl
theorem ws7:(!startupNames.contains lw.row.name)=true:=by kernel_rfl
theorem ws8:decide (lw.foot<=(behindTheImports lw.prog).length)=true:=by kernel_rfl
theorem ws9:lw.footing.all footLine=true:=by kernel_rfl
theorem abQ:noClassBlock lw.prog lw.footing=true:=by kernel_rfl
theorem abz:noRoadLSs {strict:=true,foot:=some lw.bound',writes:=lw.writes,may:=lw.may} lw.footing=true:=by kernel_rfl
theorem aac:defStands lw.about lw.above=true:=by kernel_rfl
theorem abR:lw.namesIt=true:=by kernel_rfl
theorem aau:((["type","isinstance","issubclass","getattr","hasattr"]:List Str).all (λn=>lw.about !=[n]))=true:=by kernel_rfl
theorem aaO:(lw.bound'.all (λn=>!builtinNamed n||lw.about==[n] ||!lw.reads n))=true:=by kernel_rfl
theorem aae:(!lw.writes||(lw.prog.main.body.flatMap importedNames).all λn=>!lw.reads n)=true:=by kernel_rfl
theorem abm:((lw.prog.main.body.flatMap importedNames).all λn=>!lw.reads n||(drawsOf n lw.prog.main.body).all λm=>m.2 !=("attrgetter":Str) &&m.2 !=("methodcaller":Str))=true:=by kernel_rfl
theorem aaZ:(namesMeet lw.prog lw.footing (λsc n=>(!(["type","isinstance","issubclass","getattr","hasattr"]:List Str).contains n||sc.names.lookup n==some .globalImplicit) &&(lw.may !=some n||sc.kind== .module||sc.names.lookup n==some .globalImplicit)))=true:=by kernel_rfl
theorem aaQ:lw.own.contains lw.name=true:=by kernel_rfl
theorem aas:(lw.own.eraseDups.length==lw.own.length)=true:=by kernel_rfl
theorem abH:(lw.own.all (λn=>!builtinNamed n))=true:=by kernel_rfl
theorem abB:(namesMeet lw.prog lw.above (λ_ n=>!lw.own.contains n))=true:=by kernel_rfl
theorem abK:(namesMeet lw.prog lw.footing λsc n=>sc.kind== .module||sc.names.lookup n !=some .globalExplicit)=true:=by kernel_rfl
theorem ws:rw_xm0855_01.wellSaid=true:=by
 unfold OpenLaw.wellSaid OpenRow.wellSaid OpenRow.partSaid looksOpen
 iterate 40 (all_goals try with_reducible refine look_both ?_ ?_)
 all_goals first|with_reducible exact ws0|with_reducible exact ws1|with_reducible exact ws2|with_reducible exact ws3|with_reducible exact ws4|with_reducible exact ws5|with_reducible exact ws6|with_reducible exact ws7|with_reducible exact ws8|with_reducible exact ws9|with_reducible exact abQ|with_reducible exact abz|with_reducible exact aac|with_reducible exact abR|with_reducible exact aau|with_reducible exact aaO|with_reducible exact aae|with_reducible exact abm|with_reducible exact aaZ|with_reducible exact aaQ|with_reducible exact aas|with_reducible exact abH|with_reducible exact abB|with_reducible exact abK|(kernel_rfl)
end Mine.HD
theorem PySem.Challenge.cw_xm0855_01_holds : PySem.Challenge.rw_xm0855_01.Holds := by
 exact⟨Mine.HD.ws,row_said Mine.HD.ws,⟨[.list []],by decide+kernel,by decide+kernel⟩,Mine.Rt⟩
end
