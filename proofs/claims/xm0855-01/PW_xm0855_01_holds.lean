import PyProof.Rows.All
import Wide.All
import OpenK.AllK
import Wide.FinOn
import KE.KxPercent
import PyProof.ExcBaseAll.Exception
import Lean
import PySem.Challenge.RW_xm0855_01
open And renaming imp_right->jB,intro->Hd
open Array renaming toList->nG,getElem?_eq_some_iff->oq,length_toList->vH,eraseIdxIfInBounds->Dz
open Bool renaming and_eq_true_iff->ag,false_ne_true->hW,false_eq_true->jR,or_eq_true_iff->nq,and_false->Dn,true_and->E1
open Eq renaming symm->ao
open Exists renaming imp->Bx
open ForInStep renaming yield->cw
open Int renaming ofNat_le->ax,le_of_eq->aF,toNat_natCast->aL,ofNat_lt->bb,natCast_add->bj,natAbs_natCast->cT,ofNat_sub->cW,le_antisymm->da,natCast_nonneg->dZ,mul_le_mul_of_nonneg_left->fq,not_lt->gq,toNat_of_nonneg->gQ,eq_ofNat_of_zero_le->jW,self_le_toNat->kQ,lt_of_le_of_lt->o8,not_le->o9,fdiv_eq_ediv_of_nonneg->o_,lt_or_gt_of_ne->pa,ofNat->rB,le_trans->zw,toNat_lt->zx,fmod_eq_emod_of_nonneg->DA,le_of_lt->IF
open Int.ofNat renaming inj->gZ
open List renaming length_append->ah,length_map->aq,append_assoc->aC,mem_singleton->aR,length_cons->aU,length_singleton->aV,map_append->aX,append_nil->a_,getElem?_eq_getElem->bx,mem_cons->bE,mem_append->cC,length->cF,all_eq_true->cJ,mem_map->cK,getElem?_map->cP,map_inj_left->cQ,map_cons->dr,lookup_cons->dA,length_take->dO,map_congr_left->dQ,take_of_length_le->d5,length_range->d7,map_map->eg,length_drop->ey,flatten_cons->fy,pairwise_singleton->fA,getElem_mem->fL,drop_zero->fO,nodup_cons->fZ,range->gp,take_add_one->iG,nodup_append->iH,getElem?_append_right->iS,getElem?_eq_some_iff->jg,flatten_append->jo,map_take->jy,nil_append->jA,eraseIdx_cons_succ->jT,size_toArray->kJ,replicate->kK,take_zero->kL,mem_of_mem_take->mr,pairwise_append->mu,length_pos_iff->nL,nodup_nil->o5,flatten_nil->rn,cons->rq,range_succ_eq_map->tn,map_nil->tp,foldl_cons->tO,getElem?_eq_none->uc,take_append_drop->ug,map_drop->xf,mem_cons_self->x_,any_eq_false->y7,not_mem_nil->AX,forIn_cons->Bs,length_nil->Bw,getD_eq_getElem?_getD->Dm,sum_cons->E6,length_eq_zero_iff->Fn,map_set->Hh,getElem?_toArray->IG,mem_of_mem_drop->JI,mem_append_left->JK,mem_cons_of_mem->JL,mem_of_getElem?->JM,getLast?_append->JN,getElem?_range->J1
open List.Pairwise renaming nil->mv
open Nat renaming le_of_eq->aa,blt->aB,le_of_ble_eq_true->aE,le_trans->aH,lt_of_le_of_lt->aM,mul_le_mul_left->aP,le_antisymm->aS,lt_of_lt_of_le->aZ,sub_add_cancel->bM,le_of_not_lt->bW,lt_trans->b_,add_le_add_left->cV,ble->dN,pow_le_pow_right->d0,ble_eq->d3,lt_succ_iff_lt_or_eq->d9,min_eq_left->fE,mod_lt->fP,le_of_lt->gg,lt_succ_of_le->gh,lt_succ_self->gS,min_le_right->gT,zero_le->hX,succ_pos->ia,beq->ic,lt_or_gt_of_ne->ik,lt_irrefl->iD,le_of_lt_succ->iJ,le_refl->iU,le_add_of_sub_le->iV,sub_le->iW,le_add_right->je,add_sub_cancel_left->jX,pow_succ->kS,div_lt_iff_lt_mul->lT,div_le_self->nK,sub_self->ou,le_succ->qp,add_assoc->q5,min_eq_right->rC,succ_le_succ->rD,ne_of_beq_eq_false->tK,not_lt->tN,mul_comm->tP,min_le_left->ua,not_lt_zero->uf,eq_of_beq_eq_true->uX,ne_of_lt->zy,and_two_pow_sub_one_eq_mod->A5,mod_eq_of_lt->A6,gt_of_not_le->A7,lt_of_not_le->A8,log2_lt->Bt,two_pow_add_eq_or_of_lt->Dq,add_le_add->Dw,not_le->DB,add_lt_add_of_lt_of_le->DC,zero_add->II,add_lt_add_right->J0
open Nat.Internal.Linear.ExprCnstr renaming eq_false_of_isUnsat->B8
open Ne renaming symm->aJ
open Option renaming isSome_iff_exists->jm,map_eq_some_iff->q_,elim->Hb
open Option.some renaming inj->bV
open PyProof.Rows renaming IsTup->qX,inR->rE
open PySem renaming Params->bg,OsState->bL,wpAny->bP,World->bY,builtinLookup_eq_fast->bZ,Expr->dh,DictEntry->dw,NameKind->dz,typeLookup_type->dC,Program->eA,foldedSetIterable->gw,sizeLine->ie,bm_if_false->iF,Stmt->jz,ExceptHandler->ke,getMethod_builtin->l_,Env->mq,builtinsNs->nt,typeLookup->ny,entryFor_of_fast->nA,entryFor_of_tree->nB,wpAny_ite->nE,theTreesLotGoes->o6,isSubtype_type->qY,bm_if_true->q0,attributeBase->tL,Comprehension->tM,leftWithCleanup->w8,unsupported->yT,behindInMarks->AW,strLen_append->AY,Operator->B9,slot_list_getitem->B_,Result->Dx,slot_list_setitem->E2,Str->E5,codeAny_of_tree->Fh,codeAny_builtin->Fj,ofString_length->Hf
open PySem.Around renaming under_plainId->ud
open PySem.AutoSeq1 renaming wpAny_loadPart'->ub
open PySem.Builtin renaming bitAnd->gr,bitOr->jf,bitNot->nJ
open PySem.Builtin.Bytes renaming decodersThatHold->fV,sameRef->jw,buffer?->jx,slotIsOwn->nC,write->qZ,checkResize->x9,joined->A4
open PySem.Builtin.Int renaming intBits->fY,intTooBig->Bu
open PySem.Builtin.Range renaming rangeSize->nH
open PySem.Calls renaming Name_function_global->ot,loadGlobal_global->E4
open PySem.DictEntry renaming refKey->ID
open PySem.EntryCells renaming newEntry->Dy
open PySem.Env renaming kindOf->o7
open PySem.F renaming excBase_Exception->oZ,bm_called->rh,plainAttrs_list->Dp,slot_list_pop->E3,bm_plain->Fi
open PySem.Heap renaming get?_push_of_some->bB,get?_push_size->dv,SameBut->d_,lt_size->eO,get?_update_self->e_,get?_update_other->hU,ExtBut->vC,get?_some_iff->x8
open PySem.Heap.IsSliceOf renaming new->rd
open PySem.Heap.SameBut renaming update->iE
open PySem.IsRange renaming new->Fm
open PySem.NameKind renaming free->eD
open PySem.Obj renaming mapBytearray->gR,putNameByArray->ig,putName_eq->kR,mapSeq->lZ,mapFields->qW,data_mapFields->yV,isFreed_of_fields->JJ
open PySem.PyData renaming keyHash->Bv
open PySem.Sem renaming wp_mono->vG
open PySem.Str renaming ofString->eK,empty->Hg
open PySem.Value renaming ref->iq,none->lg
open PySem.Value.type renaming inj->y8
open PySem.W renaming Frag->fg,emptyDict->ij,fresh_of_stays->yU,boot_drawn->A9,boot_toks->DD,keepIn->IC
open PySem.W.FB renaming slot_bytes_getitem->vB
open PySem.W.Fast renaming te14364793385576792824->iK,te10110043849684766642->rG
open PySem.W.WShape renaming hasItems->rH
open UInt8 renaming ofNat->cM
open PySem PySem.W PyProof.Rows
set_option Elab.async false
set_option maxRecDepth 100000
set_option maxHeartbeats 4000000
set_option linter.all false
set_option genInjectivity false
set_option genSizeOf false
set_option autoImplicit true
noncomputable section
abbrev Mine.TT(A B:Prop):Prop:=(A->B)->A->B
set_option compiler.extract_closed false
open Lean in
local macro_rules (kind:=Lean.Parser.Tactic.tacticErw___)
|s=>do
 let h<-`(?_)
 let p<-`((?_:Mine.TT _ _))
 let e<-`(tactic|exact λ_ x=>x)
 return mkNullNode (s[2][1].getSepArgs.map λr=>
  let t:=r[1]
  let b:=t.isOfKind ``Parser.Term.app
  let f:=cond b t[0] t
  let a:=cond b t[1].getArgs #[]
  let q x:=mkNode ``Parser.Tactic.refine' #[h,x]
  let g f a:=mkNode ``Parser.Term.app #[f,mkNullNode (a.push h)]
  if !r[0].isNone then q t else
  if t.isOfKind ``Parser.Term.paren then mkNode ``Parser.Tactic.intro #[h,mkNullNode (let u:=t[1];if u.isOfKind ``Parser.Term.app then #[u[0]]++u[1].getArgs else #[u])] else
  if f.getId.toString.front=='Z' then mkNullNode #[q (g p #[t]),e] else q (g f a))
namespace Mine
universe u1 u2 u3 u4 u5 u6
section
variable{A B C D E F G:Prop}
theorem aD(e:A/\B)(f:A->B->G):G:=f e.1 e.2
theorem cA(e:A/\B/\C)(f:A->B->C->G):G:=f e.1 e.2.1 e.2.2
theorem dX(e:A/\B/\C/\D)(f:A->B->C->D->G):G:=f e.1 e.2.1 e.2.2.1 e.2.2.2
theorem iu(e:A/\B/\C/\D/\E)(f:A->B->C->D->E->G):G:=f e.1 e.2.1 e.2.2.1 e.2.2.2.1 e.2.2.2.2
theorem FX(e:A/\B/\C/\D/\E/\F)(f:A->B->C->D->E->F->G):G:=f e.1 e.2.1 e.2.2.1 e.2.2.2.1 e.2.2.2.2.1 e.2.2.2.2.2
theorem gk(f:A->B->G)(e:A/\B):G:=aD e f
end
section
variable{KZ:Sort u1}{A B C D E F H I:KZ->Prop}{G:Prop}
theorem bf(e:∃x,A x)(f:∀x,A x->G):G:=e.elim λx h=>f x h
theorem ay(e:∃x,A x/\B x)(f:∀x,A x->B x->G):G:=e.elim λx h=>f x h.1 h.2
theorem cX(e:∃x,A x/\B x/\C x)(f:∀x,A x->B x->C x->G):G:=e.elim λx h=>f x h.1 h.2.1 h.2.2
theorem fc(e:∃x,A x/\B x/\C x/\D x)(f:∀x,A x->B x->C x->D x->G):G:=e.elim λx h=>f x h.1 h.2.1 h.2.2.1 h.2.2.2
theorem Rt(e:∃x,A x/\B x/\C x/\D x/\E x)(f:∀x,A x->B x->C x->D x->E x->G):G:=e.elim λx h=>f x h.1 h.2.1 h.2.2.1 h.2.2.2.1 h.2.2.2.2
theorem Ka(e:∃x,A x/\B x/\C x/\D x/\E x/\F x)(f:∀x,A x->B x->C x->D x->E x->F x->G):G:=e.elim λx h=>f x h.1 h.2.1 h.2.2.1 h.2.2.2.1 h.2.2.2.2.1 h.2.2.2.2.2
theorem NX(e:∃x,A x/\B x/\C x/\D x/\E x/\F x/\H x/\I x)(f:∀x,A x->B x->C x->D x->E x->F x->H x->I x->G):G:=e.elim λx h=>f x h.1 h.2.1 h.2.2.1 h.2.2.2.1 h.2.2.2.2.1 h.2.2.2.2.2.1 h.2.2.2.2.2.2.1 h.2.2.2.2.2.2.2
theorem bI(f:∀x,A x->B x->G)(e:∃x,A x/\B x):G:=ay e f
theorem CV(f:∀x,A x->B x->C x->G)(e:∃x,A x/\B x/\C x):G:=cX e f
end
section
variable{KZ:Sort u1}{PT:Sort u2}{A B C D E F H I J K L M N O P Q R:KZ->PT->Prop}{G:Prop}
theorem gI(e:∃x y,A x y)(f:∀x y,A x y->G):G:=e.elim λx e=>e.elim λy h=>f x y h
theorem dg(e:∃x y,A x y/\B x y)(f:∀x y,A x y->B x y->G):G:=e.elim λx e=>e.elim λy h=>f x y h.1 h.2
theorem df(e:∃x y,A x y/\B x y/\C x y)(f:∀x y,A x y->B x y->C x y->G):G:=e.elim λx e=>e.elim λy h=>f x y h.1 h.2.1 h.2.2
theorem fX(e:∃x y,A x y/\B x y/\C x y/\D x y)(f:∀x y,A x y->B x y->C x y->D x y->G):G:=e.elim λx e=>e.elim λy h=>f x y h.1 h.2.1 h.2.2.1 h.2.2.2
theorem iC(e:∃x y,A x y/\B x y/\C x y/\D x y/\E x y)(f:∀x y,A x y->B x y->C x y->D x y->E x y->G):G:=e.elim λx e=>e.elim λy h=>f x y h.1 h.2.1 h.2.2.1 h.2.2.2.1 h.2.2.2.2
theorem CJ(e:∃x y,A x y/\B x y/\C x y/\D x y/\E x y/\F x y)(f:∀x y,A x y->B x y->C x y->D x y->E x y->F x y->G):G:=e.elim λx e=>e.elim λy h=>f x y h.1 h.2.1 h.2.2.1 h.2.2.2.1 h.2.2.2.2.1 h.2.2.2.2.2
theorem Cv(e:∃x y,A x y/\B x y/\C x y/\D x y/\E x y/\F x y/\H x y)(f:∀x y,A x y->B x y->C x y->D x y->E x y->F x y->H x y->G):G:=e.elim λx e=>e.elim λy h=>f x y h.1 h.2.1 h.2.2.1 h.2.2.2.1 h.2.2.2.2.1 h.2.2.2.2.2.1 h.2.2.2.2.2.2
theorem UT(e:∃x y,A x y/\B x y/\C x y/\D x y/\E x y/\F x y/\H x y/\I x y/\J x y)(f:∀x y,A x y->B x y->C x y->D x y->E x y->F x y->H x y->I x y->J x y->G):G:=e.elim λx e=>e.elim λy h=>f x y h.1 h.2.1 h.2.2.1 h.2.2.2.1 h.2.2.2.2.1 h.2.2.2.2.2.1 h.2.2.2.2.2.2.1 h.2.2.2.2.2.2.2.1 h.2.2.2.2.2.2.2.2
theorem HK(e:∃x y,A x y/\B x y/\C x y/\D x y/\E x y/\F x y/\H x y/\I x y/\J x y/\K x y/\L x y/\M x y/\N x y/\O x y/\P x y/\Q x y/\R x y)(f:∀x y,A x y->B x y->C x y->D x y->E x y->F x y->H x y->I x y->J x y->K x y->L x y->M x y->N x y->O x y->P x y->Q x y->R x y->G):G:=e.elim λx e=>e.elim λy h=>f x y h.1 h.2.1 h.2.2.1 h.2.2.2.1 h.2.2.2.2.1 h.2.2.2.2.2.1 h.2.2.2.2.2.2.1 h.2.2.2.2.2.2.2.1 h.2.2.2.2.2.2.2.2.1 h.2.2.2.2.2.2.2.2.2.1 h.2.2.2.2.2.2.2.2.2.2.1 h.2.2.2.2.2.2.2.2.2.2.2.1 h.2.2.2.2.2.2.2.2.2.2.2.2.1 h.2.2.2.2.2.2.2.2.2.2.2.2.2.1 h.2.2.2.2.2.2.2.2.2.2.2.2.2.2.1 h.2.2.2.2.2.2.2.2.2.2.2.2.2.2.2.1 h.2.2.2.2.2.2.2.2.2.2.2.2.2.2.2.2
theorem Nu(f:∀x y,A x y->B x y->G)(e:∃x y,A x y/\B x y):G:=dg e f
end
section
variable{KZ:Sort u1}{PT:Sort u2}{Tn:Sort u3}{A B C D E F H I J K L:KZ->PT->Tn->Prop}{G:Prop}
theorem TB(e:∃x y z,A x y z)(f:∀x y z,A x y z->G):G:=e.elim λx e=>e.elim λy e=>e.elim λz h=>f x y z h
theorem xN(e:∃x y z,A x y z/\B x y z)(f:∀x y z,A x y z->B x y z->G):G:=e.elim λx e=>e.elim λy e=>e.elim λz h=>f x y z h.1 h.2
theorem iB(e:∃x y z,A x y z/\B x y z/\C x y z)(f:∀x y z,A x y z->B x y z->C x y z->G):G:=e.elim λx e=>e.elim λy e=>e.elim λz h=>f x y z h.1 h.2.1 h.2.2
theorem mR(e:∃x y z,A x y z/\B x y z/\C x y z/\D x y z)(f:∀x y z,A x y z->B x y z->C x y z->D x y z->G):G:=e.elim λx e=>e.elim λy e=>e.elim λz h=>f x y z h.1 h.2.1 h.2.2.1 h.2.2.2
theorem AG(e:∃x y z,A x y z/\B x y z/\C x y z/\D x y z/\E x y z)(f:∀x y z,A x y z->B x y z->C x y z->D x y z->E x y z->G):G:=e.elim λx e=>e.elim λy e=>e.elim λz h=>f x y z h.1 h.2.1 h.2.2.1 h.2.2.2.1 h.2.2.2.2
theorem sJ(e:∃x y z,A x y z/\B x y z/\C x y z/\D x y z/\E x y z/\F x y z)(f:∀x y z,A x y z->B x y z->C x y z->D x y z->E x y z->F x y z->G):G:=e.elim λx e=>e.elim λy e=>e.elim λz h=>f x y z h.1 h.2.1 h.2.2.1 h.2.2.2.1 h.2.2.2.2.1 h.2.2.2.2.2
theorem u0(e:∃x y z,A x y z/\B x y z/\C x y z/\D x y z/\E x y z/\F x y z/\H x y z)(f:∀x y z,A x y z->B x y z->C x y z->D x y z->E x y z->F x y z->H x y z->G):G:=e.elim λx e=>e.elim λy e=>e.elim λz h=>f x y z h.1 h.2.1 h.2.2.1 h.2.2.2.1 h.2.2.2.2.1 h.2.2.2.2.2.1 h.2.2.2.2.2.2
theorem MU(e:∃x y z,A x y z/\B x y z/\C x y z/\D x y z/\E x y z/\F x y z/\H x y z/\I x y z/\J x y z)(f:∀x y z,A x y z->B x y z->C x y z->D x y z->E x y z->F x y z->H x y z->I x y z->J x y z->G):G:=e.elim λx e=>e.elim λy e=>e.elim λz h=>f x y z h.1 h.2.1 h.2.2.1 h.2.2.2.1 h.2.2.2.2.1 h.2.2.2.2.2.1 h.2.2.2.2.2.2.1 h.2.2.2.2.2.2.2.1 h.2.2.2.2.2.2.2.2
theorem Im(e:∃x y z,A x y z/\B x y z/\C x y z/\D x y z/\E x y z/\F x y z/\H x y z/\I x y z/\J x y z/\K x y z/\L x y z)(f:∀x y z,A x y z->B x y z->C x y z->D x y z->E x y z->F x y z->H x y z->I x y z->J x y z->K x y z->L x y z->G):G:=e.elim λx e=>e.elim λy e=>e.elim λz h=>f x y z h.1 h.2.1 h.2.2.1 h.2.2.2.1 h.2.2.2.2.1 h.2.2.2.2.2.1 h.2.2.2.2.2.2.1 h.2.2.2.2.2.2.2.1 h.2.2.2.2.2.2.2.2.1 h.2.2.2.2.2.2.2.2.2.1 h.2.2.2.2.2.2.2.2.2.2
end
section
variable{KZ:Sort u1}{PT:Sort u2}{Tn:Sort u3}{Wn:Sort u4}{A B C D E F H I J K L M N:KZ->PT->Tn->Wn->Prop}{G:Prop}
theorem vz(e:∃x y z u,A x y z u)(f:∀x y z u,A x y z u->G):G:=e.elim λx e=>e.elim λy e=>e.elim λz e=>e.elim λu h=>f x y z u h
theorem Uu(e:∃x y z u,A x y z u/\B x y z u)(f:∀x y z u,A x y z u->B x y z u->G):G:=e.elim λx e=>e.elim λy e=>e.elim λz e=>e.elim λu h=>f x y z u h.1 h.2
theorem kI(e:∃x y z u,A x y z u/\B x y z u/\C x y z u)(f:∀x y z u,A x y z u->B x y z u->C x y z u->G):G:=e.elim λx e=>e.elim λy e=>e.elim λz e=>e.elim λu h=>f x y z u h.1 h.2.1 h.2.2
theorem iR(e:∃x y z u,A x y z u/\B x y z u/\C x y z u/\D x y z u)(f:∀x y z u,A x y z u->B x y z u->C x y z u->D x y z u->G):G:=e.elim λx e=>e.elim λy e=>e.elim λz e=>e.elim λu h=>f x y z u h.1 h.2.1 h.2.2.1 h.2.2.2
theorem R0(e:∃x y z u,A x y z u/\B x y z u/\C x y z u/\D x y z u/\E x y z u)(f:∀x y z u,A x y z u->B x y z u->C x y z u->D x y z u->E x y z u->G):G:=e.elim λx e=>e.elim λy e=>e.elim λz e=>e.elim λu h=>f x y z u h.1 h.2.1 h.2.2.1 h.2.2.2.1 h.2.2.2.2
theorem MD(e:∃x y z u,A x y z u/\B x y z u/\C x y z u/\D x y z u/\E x y z u/\F x y z u/\H x y z u)(f:∀x y z u,A x y z u->B x y z u->C x y z u->D x y z u->E x y z u->F x y z u->H x y z u->G):G:=e.elim λx e=>e.elim λy e=>e.elim λz e=>e.elim λu h=>f x y z u h.1 h.2.1 h.2.2.1 h.2.2.2.1 h.2.2.2.2.1 h.2.2.2.2.2.1 h.2.2.2.2.2.2
theorem LO(e:∃x y z u,A x y z u/\B x y z u/\C x y z u/\D x y z u/\E x y z u/\F x y z u/\H x y z u/\I x y z u/\J x y z u)(f:∀x y z u,A x y z u->B x y z u->C x y z u->D x y z u->E x y z u->F x y z u->H x y z u->I x y z u->J x y z u->G):G:=e.elim λx e=>e.elim λy e=>e.elim λz e=>e.elim λu h=>f x y z u h.1 h.2.1 h.2.2.1 h.2.2.2.1 h.2.2.2.2.1 h.2.2.2.2.2.1 h.2.2.2.2.2.2.1 h.2.2.2.2.2.2.2.1 h.2.2.2.2.2.2.2.2
theorem Pp(e:∃x y z u,A x y z u/\B x y z u/\C x y z u/\D x y z u/\E x y z u/\F x y z u/\H x y z u/\I x y z u/\J x y z u/\K x y z u/\L x y z u/\M x y z u/\N x y z u)(f:∀x y z u,A x y z u->B x y z u->C x y z u->D x y z u->E x y z u->F x y z u->H x y z u->I x y z u->J x y z u->K x y z u->L x y z u->M x y z u->N x y z u->G):G:=e.elim λx e=>e.elim λy e=>e.elim λz e=>e.elim λu h=>f x y z u h.1 h.2.1 h.2.2.1 h.2.2.2.1 h.2.2.2.2.1 h.2.2.2.2.2.1 h.2.2.2.2.2.2.1 h.2.2.2.2.2.2.2.1 h.2.2.2.2.2.2.2.2.1 h.2.2.2.2.2.2.2.2.2.1 h.2.2.2.2.2.2.2.2.2.2.1 h.2.2.2.2.2.2.2.2.2.2.2.1 h.2.2.2.2.2.2.2.2.2.2.2.2
end
section
variable{KZ:Sort u1}{PT:Sort u2}{Tn:Sort u3}{Wn:Sort u4}{α5:Sort u5}{A B C D E F H I J K L M N O:KZ->PT->Tn->Wn->α5->Prop}{G:Prop}
theorem iN(e:∃x y z u v,A x y z u v/\B x y z u v/\C x y z u v)(f:∀x y z u v,A x y z u v->B x y z u v->C x y z u v->G):G:=e.elim λx e=>e.elim λy e=>e.elim λz e=>e.elim λu e=>e.elim λv h=>f x y z u v h.1 h.2.1 h.2.2
theorem C0(e:∃x y z u v,A x y z u v/\B x y z u v/\C x y z u v/\D x y z u v)(f:∀x y z u v,A x y z u v->B x y z u v->C x y z u v->D x y z u v->G):G:=e.elim λx e=>e.elim λy e=>e.elim λz e=>e.elim λu e=>e.elim λv h=>f x y z u v h.1 h.2.1 h.2.2.1 h.2.2.2
theorem RL(e:∃x y z u v,A x y z u v/\B x y z u v/\C x y z u v/\D x y z u v/\E x y z u v/\F x y z u v)(f:∀x y z u v,A x y z u v->B x y z u v->C x y z u v->D x y z u v->E x y z u v->F x y z u v->G):G:=e.elim λx e=>e.elim λy e=>e.elim λz e=>e.elim λu e=>e.elim λv h=>f x y z u v h.1 h.2.1 h.2.2.1 h.2.2.2.1 h.2.2.2.2.1 h.2.2.2.2.2
theorem PU(e:∃x y z u v,A x y z u v/\B x y z u v/\C x y z u v/\D x y z u v/\E x y z u v/\F x y z u v/\H x y z u v/\I x y z u v/\J x y z u v/\K x y z u v)(f:∀x y z u v,A x y z u v->B x y z u v->C x y z u v->D x y z u v->E x y z u v->F x y z u v->H x y z u v->I x y z u v->J x y z u v->K x y z u v->G):G:=e.elim λx e=>e.elim λy e=>e.elim λz e=>e.elim λu e=>e.elim λv h=>f x y z u v h.1 h.2.1 h.2.2.1 h.2.2.2.1 h.2.2.2.2.1 h.2.2.2.2.2.1 h.2.2.2.2.2.2.1 h.2.2.2.2.2.2.2.1 h.2.2.2.2.2.2.2.2.1 h.2.2.2.2.2.2.2.2.2
theorem Pk(e:∃x y z u v,A x y z u v/\B x y z u v/\C x y z u v/\D x y z u v/\E x y z u v/\F x y z u v/\H x y z u v/\I x y z u v/\J x y z u v/\K x y z u v/\L x y z u v)(f:∀x y z u v,A x y z u v->B x y z u v->C x y z u v->D x y z u v->E x y z u v->F x y z u v->H x y z u v->I x y z u v->J x y z u v->K x y z u v->L x y z u v->G):G:=e.elim λx e=>e.elim λy e=>e.elim λz e=>e.elim λu e=>e.elim λv h=>f x y z u v h.1 h.2.1 h.2.2.1 h.2.2.2.1 h.2.2.2.2.1 h.2.2.2.2.2.1 h.2.2.2.2.2.2.1 h.2.2.2.2.2.2.2.1 h.2.2.2.2.2.2.2.2.1 h.2.2.2.2.2.2.2.2.2.1 h.2.2.2.2.2.2.2.2.2.2
theorem HM(e:∃x y z u v,A x y z u v/\B x y z u v/\C x y z u v/\D x y z u v/\E x y z u v/\F x y z u v/\H x y z u v/\I x y z u v/\J x y z u v/\K x y z u v/\L x y z u v/\M x y z u v/\N x y z u v)(f:∀x y z u v,A x y z u v->B x y z u v->C x y z u v->D x y z u v->E x y z u v->F x y z u v->H x y z u v->I x y z u v->J x y z u v->K x y z u v->L x y z u v->M x y z u v->N x y z u v->G):G:=e.elim λx e=>e.elim λy e=>e.elim λz e=>e.elim λu e=>e.elim λv h=>f x y z u v h.1 h.2.1 h.2.2.1 h.2.2.2.1 h.2.2.2.2.1 h.2.2.2.2.2.1 h.2.2.2.2.2.2.1 h.2.2.2.2.2.2.2.1 h.2.2.2.2.2.2.2.2.1 h.2.2.2.2.2.2.2.2.2.1 h.2.2.2.2.2.2.2.2.2.2.1 h.2.2.2.2.2.2.2.2.2.2.2.1 h.2.2.2.2.2.2.2.2.2.2.2.2
theorem HS(e:∃x y z u v,A x y z u v/\B x y z u v/\C x y z u v/\D x y z u v/\E x y z u v/\F x y z u v/\H x y z u v/\I x y z u v/\J x y z u v/\K x y z u v/\L x y z u v/\M x y z u v/\N x y z u v/\O x y z u v)(f:∀x y z u v,A x y z u v->B x y z u v->C x y z u v->D x y z u v->E x y z u v->F x y z u v->H x y z u v->I x y z u v->J x y z u v->K x y z u v->L x y z u v->M x y z u v->N x y z u v->O x y z u v->G):G:=e.elim λx e=>e.elim λy e=>e.elim λz e=>e.elim λu e=>e.elim λv h=>f x y z u v h.1 h.2.1 h.2.2.1 h.2.2.2.1 h.2.2.2.2.1 h.2.2.2.2.2.1 h.2.2.2.2.2.2.1 h.2.2.2.2.2.2.2.1 h.2.2.2.2.2.2.2.2.1 h.2.2.2.2.2.2.2.2.2.1 h.2.2.2.2.2.2.2.2.2.2.1 h.2.2.2.2.2.2.2.2.2.2.2.1 h.2.2.2.2.2.2.2.2.2.2.2.2.1 h.2.2.2.2.2.2.2.2.2.2.2.2.2
end
section
variable{KZ:Sort u1}{PT:Sort u2}{Tn:Sort u3}{Wn:Sort u4}{α5:Sort u5}{α6:Sort u6}{A:KZ->PT->Tn->Wn->α5->α6->Prop}{G:Prop}
theorem tm(e:∃x y z u v w,A x y z u v w)(f:∀x y z u v w,A x y z u v w->G):G:=e.elim λx e=>e.elim λy e=>e.elim λz e=>e.elim λu e=>e.elim λv e=>e.elim λw h=>f x y z u v w h
end
@[elab_as_elim] theorem aj{c:Sort u1}{b:c}{motive:c->Prop}{a:c}(e:a=b)(h:motive b):motive a:=e▸h
@[elab_as_elim] theorem c_{c:Sort u1}{b:c}{motive:c->Prop}{a:c}(e:b=a)(h:motive b):motive a:=e▸h
theorem rt:true=true:=rfl
abbrev NE:=Nat.Internal.Linear.Expr
noncomputable abbrev zn(k:Nat):NE:=.num k
noncomputable abbrev zp(a b:NE):NE:=.add a b
noncomputable abbrev av:NE:=.var 0
noncomputable abbrev aW:NE:=.var 1
noncomputable abbrev bT:NE:=.var 2
noncomputable abbrev f9:NE:=.var 3
noncomputable abbrev tf:NE:=.var 4
noncomputable abbrev D5:NE:=.var 5
noncomputable abbrev UY:NE:=.var 6
abbrev RN:=Lean.RArray Nat
noncomputable abbrev zc1(a:Nat):RN:=.leaf a
noncomputable abbrev J6(a b:Nat):RN:=.branch 1 (.leaf a) (.leaf b)
noncomputable abbrev Xi(a b c:Nat):RN:=.branch 1 (.leaf a) (.branch 2 (.leaf b) (.leaf c))
abbrev zc4(a b c d:Nat):RN:=.branch 2 (J6 a b) (.branch 3 (.leaf c) (.leaf d))
abbrev zc5(a b c d e:Nat):RN:=.branch 4 (zc4 a b c d) (.leaf e)
abbrev zc6(a b c d e f:Nat):RN:=.branch 4 (zc4 a b c d) (.branch 5 (.leaf e) (.leaf f))
abbrev zc7(a b c d e f g:Nat):RN:=.branch 6 (zc6 a b c d e f) (.leaf g)
abbrev zc8(a b c d e f g h:Nat):RN:=.branch 7 (zc7 a b c d e f g) (.leaf h)
noncomputable abbrev zx7:NE:=.var 7
abbrev zc9(a b c d e f g h i:Nat):RN:=.branch 8 (zc8 a b c d e f g h) (.leaf i)
abbrev abv(a b c d e f g h i j:Nat):RN:=.branch 9 (zc9 a b c d e f g h i) (.leaf j)
abbrev aaJ(a b c d e f g h i j k:Nat):RN:=.branch 10 (abv a b c d e f g h i j) (.leaf k)
abbrev abB(a b c d e f g h i j k l:Nat):RN:=.branch 11 (aaJ a b c d e f g h i j k) (.leaf l)
abbrev aai(a b c d e f g h i j k l m:Nat):RN:=.branch 12 (abB a b c d e f g h i j k l) (.leaf m)
abbrev aa8(a b c d e f g h i j k l m n:Nat):RN:=.branch 13 (aai a b c d e f g h i j k l m) (.leaf n)
noncomputable abbrev zx8:NE:=.var 8
noncomputable abbrev zx9:NE:=.var 9
noncomputable abbrev YH:NE:=.var 10
noncomputable abbrev X0:NE:=.var 11
noncomputable abbrev YR:NE:=.var 12
noncomputable abbrev XY:NE:=.var 13
noncomputable def lqL(cs:List (NE×NE)):NE:=cs.foldr (λx y=>.add x.1 y) (.num 0)
noncomputable def lqR(cs:List (NE×NE)):NE:=cs.foldr (λx y=>.add x.2 y) (.num 0)
def P_(c:RN)(cs:List (NE×NE)):Prop:=cs.foldr (λx y=>x.1.denote c<=x.2.denote c->y) False
theorem lq0(c:RN)(a:List (NE×NE)):((lqL a).denote c<=(lqR a).denote c->False)->P_ c a:=by
 induction a with
 |nil=>exact λh=>h (iU _)
 |cons x a i=>exact λh q=>i λy=>h (Dw q y)
theorem lq(c:RN)(a:List (NE×NE))(h:(Nat.Internal.Linear.ExprCnstr.mk false (lqL a) (lqR a)).toNormPoly.isUnsat=true):P_ c a:=
 lq0 c a λq=>(B8 c _ h).mp q
noncomputable abbrev zs(a:NE):NE:=.add a (.num 1)
noncomputable abbrev zk(a:NE)(k:Nat):NE:=.add a (.num k)
noncomputable abbrev zm(k:Nat)(a:NE):NE:=.mulL k a
noncomputable def O4(c:RN)(cs:List (NE×NE))(g:NE×NE):Prop:=cs.foldr (λx y=>x.1.denote c<=x.2.denote c->y) (g.1.denote c<=g.2.denote c)
theorem lr0(c:RN)(a:List (NE×NE))(g:NE×NE):(g.2.denote c<g.1.denote c->P_ c a)->O4 c a g:=by
 induction a with
 |nil=>exact bW
 |cons x a i=>exact λh q=>i λn=>h n q
abbrev IV(cs:List (NE×NE)):Prop:=(Nat.Internal.Linear.ExprCnstr.mk false (lqL cs) (lqR cs)).toNormPoly.isUnsat=true
theorem lr{c:RN}(a:List (NE×NE))(g:NE×NE)(h:IV ((zs g.2,g.1)::a)):O4 c a g:=lr0 c a g (lq c _ h)
theorem cH{a:Nat}(c:List (NE×NE))(h:IV c):P_ (zc1 a) c:=lq _ c h
theorem Gp{a b:Nat}(c:List (NE×NE))(h:IV c):P_ (J6 a b) c:=lq _ c h
theorem lq3{a b c:Nat}(d:List (NE×NE))(h:IV d):P_ (Xi a b c) d:=lq _ d h
theorem lq5{a b c d e:Nat}(f:List (NE×NE))(h:IV f):P_ (zc5 a b c d e) f:=lq _ f h
theorem Ef(c:List (NE×NE))(h:IV c):P_ (.leaf 0) c:=lq _ c h
theorem dJ{a:Nat}(c:List (NE×NE))(g:NE×NE)(h:IV ((zs g.2,g.1)::c)):O4 (zc1 a) c g:=lr c g h
theorem fe{a b:Nat}(c:List (NE×NE))(g:NE×NE)(h:IV ((zs g.2,g.1)::c)):O4 (J6 a b) c g:=lr c g h
theorem gF{a b c:Nat}(d:List (NE×NE))(g:NE×NE)(h:IV ((zs g.2,g.1)::d)):O4 (Xi a b c) d g:=lr d g h
theorem yj{a b c d:Nat}(e:List (NE×NE))(g:NE×NE)(h:IV ((zs g.2,g.1)::e)):O4 (zc4 a b c d) e g:=lr e g h
theorem QK{a b c d e:Nat}(f:List (NE×NE))(g:NE×NE)(h:IV ((zs g.2,g.1)::f)):O4 (zc5 a b c d e) f g:=lr f g h
theorem UX{a b c d e f:Nat}(i:List (NE×NE))(g:NE×NE)(h:IV ((zs g.2,g.1)::i)):O4 (zc6 a b c d e f) i g:=lr i g h
theorem lr7{a b c d e f i:Nat}(j:List (NE×NE))(g:NE×NE)(h:IV ((zs g.2,g.1)::j)):O4 (zc7 a b c d e f i) j g:=lr j g h
abbrev IE:=Int.Internal.Linear.Expr
noncomputable abbrev yn(k:Int):IE:=.num k
noncomputable abbrev yp(a b:IE):IE:=.add a b
noncomputable abbrev cN:IE:=.var 0
noncomputable abbrev dW:IE:=.var 1
noncomputable abbrev fU:IE:=.var 2
noncomputable abbrev vF:IE:=.var 3
noncomputable abbrev U4:IE:=.var 4
noncomputable abbrev yx5:IE:=.var 5
abbrev RI:=Lean.RArray Int
noncomputable abbrev X5(a:Int):RI:=.leaf a
noncomputable abbrev yc2(a b:Int):RI:=.branch 1 (.leaf a) (.leaf b)
noncomputable abbrev yc3(a b c:Int):RI:=.branch 1 (.leaf a) (.branch 2 (.leaf b) (.leaf c))
abbrev yc4(a b c d:Int):RI:=.branch 2 (yc2 a b) (.branch 3 (.leaf c) (.leaf d))
abbrev yc5(a b c d e:Int):RI:=.branch 4 (yc4 a b c d) (.leaf e)
abbrev yc6(a b c d e f:Int):RI:=.branch 4 (yc4 a b c d) (.branch 5 (.leaf e) (.leaf f))
noncomputable def lyL(cs:List (IE×IE)):IE:=cs.foldr (λx y=>.add x.1 y) (.num 0)
noncomputable def lyR(cs:List (IE×IE)):IE:=cs.foldr (λx y=>.add x.2 y) (.num 0)
def SN(c:RI)(cs:List (IE×IE)):Prop:=cs.foldr (λx y=>x.1.denote c<=x.2.denote c->y) False
theorem ly0(c:RI)(a:List (IE×IE)):((lyL a).denote c<=(lyR a).denote c->False)->SN c a:=by
 induction a with
 |nil=>exact λh=>h (Int.le_refl _)
 |cons x a i=>exact λh q=>i λy=>h (Int.add_le_add q y)
theorem ly(c:RI)(a:List (IE×IE))(h:((lyL a).sub (lyR a)).norm.isUnsatLe=true):SN c a:=
 ly0 c a λq=>Int.Internal.Linear.le_unsat c _ h (Int.Internal.Linear.le_norm_expr c _ _ _ (by unfold Int.Internal.Linear.norm_eq_cert;simp) q)
noncomputable abbrev ys(a:IE):IE:=.add a (.num 1)
noncomputable abbrev ym(k:Int)(a:IE):IE:=.mulL k a
noncomputable def DH(c:RI)(cs:List (IE×IE))(g:IE×IE):Prop:=cs.foldr (λx y=>x.1.denote c<=x.2.denote c->y) (g.1.denote c<=g.2.denote c)
theorem aay(c:RI)(a:List (IE×IE))(g:IE×IE):(g.2.denote c<g.1.denote c->SN c a)->DH c a g:=by
 induction a with
 |nil=>exact gq.mp
 |cons x a i=>exact λh q=>i λn=>h n q
abbrev Ma(cs:List (IE×IE)):Prop:=((lyL cs).sub (lyR cs)).norm.isUnsatLe=true
theorem U8{c:RI}(a:List (IE×IE))(g:IE×IE)(h:Ma ((ys g.2,g.1)::a)):DH c a g:=aay c a g (ly c _ h)
theorem UW{a:Int}(c:List (IE×IE))(h:Ma c):SN (X5 a) c:=ly _ c h
theorem U1{a b:Int}(c:List (IE×IE))(h:Ma c):SN (yc2 a b) c:=ly _ c h
theorem ly3{a b c:Int}(d:List (IE×IE))(h:Ma d):SN (yc3 a b c) d:=ly _ d h
theorem ly4{a b c d:Int}(e:List (IE×IE))(h:Ma e):SN (yc4 a b c d) e:=ly _ e h
theorem oG{a:Int}(c:List (IE×IE))(g:IE×IE)(h:Ma ((ys g.2,g.1)::c)):DH (X5 a) c g:=U8 c g h
theorem oY{a b:Int}(c:List (IE×IE))(g:IE×IE)(h:Ma ((ys g.2,g.1)::c)):DH (yc2 a b) c g:=U8 c g h
theorem jU{a b c:Int}(d:List (IE×IE))(g:IE×IE)(h:Ma ((ys g.2,g.1)::d)):DH (yc3 a b c) d g:=U8 d g h
theorem zC{a b c d:Int}(e:List (IE×IE))(g:IE×IE)(h:Ma ((ys g.2,g.1)::e)):DH (yc4 a b c d) e g:=U8 e g h
theorem aah{a b c d e:Int}(f:List (IE×IE))(g:IE×IE)(h:Ma ((ys g.2,g.1)::f)):DH (yc5 a b c d e) f g:=U8 f g h
theorem Yw{a b c d e f:Int}(i:List (IE×IE))(g:IE×IE)(h:Ma ((ys g.2,g.1)::i)):DH (yc6 a b c d e f) i g:=U8 i g h
theorem dc{p:Prop}[Decidable p](h:decide p=true):p:=of_decide_eq_true h
theorem ir{a:Nat}:0<=(a:Int):=dZ _
theorem k_{a b:Nat}:a%(b+1)<b+1:=fP _ (ia _)
theorem qt{a:Nat}:a<=a:=iU _
theorem vt{a b:Nat}:a<=a+b:=je _ _
theorem spo{a:Nat}:0<a+1:=ia _
theorem j4{b:Type _}{a:b}{l:List b}:a∈a::l:=.head _
theorem fR{c:Type _}{a b:c}{l:List c}(h:a∈l):a∈b::l:=.tail _ h
@[elab_as_elim] theorem lcs{b:Type _}{motive:List b->Prop}(t:List b)(nil:motive [])(cons:∀a l,motive (a::l)):motive t:=List.casesOn t nil cons
@[elab_as_elim] theorem tT{b:Type _}{motive:Option b->Prop}(t:Option b)(none:motive .none)(some:∀a,motive (.some a)):motive t:=Option.casesOn t none some
@[elab_as_elim] theorem tQ{motive:Bool->Prop}(t:Bool)(false:motive .false)(true:motive .true):motive t:=Bool.casesOn t false true
theorem mnc{k:Nat}:min 1 (k:Int)=((min 1 k:Nat):Int):=by omega
theorem JS{x m:Nat}(h:x<m)(e:dN m (2^100)=true):((x:Nat):Int).natAbs<2^100:=aZ h (aE e)
theorem Vr{a b c:Nat}(h:b-c=a)(p:0<a):c+a=b:=by rw[<-h] at p⊢;exact Nat.add_sub_cancel' (gg (Nat.lt_of_sub_pos p))
theorem Wt{a b c:Nat}(h:a<=b+c)(z:c<=100):((a-b:Nat):Int)<2^60:=by lia
theorem n63{a:Nat}{k:Int}(h: -(a:Int)<=k)(z:a<=100000): -2^63<=k:=by lia
theorem mn8{k:Nat}:3+min 5 k<=8:=cV (ua 5 k) 3
theorem mn5{k:Nat}:(3:Int)+min 5 (k:Int)=((3+min 5 k:Nat):Int):=by lia
theorem sz1{x:Nat}:0<1+x:=aZ Nat.one_pos (je 1 x)
theorem sz2{x y:Nat}:0<1+x+y:=aZ sz1 (je _ _)
theorem sz3{x y z:Nat}:0<1+x+y+z:=aZ sz2 (je _ _)
theorem dK{a m n:Nat}(h:a<=m)(e:dN m n=true):a<=n:=aH h (aE e)
theorem nN{a m n:Nat}(e:ic m n=false):a+m≠a+n:=λh=>tK e (Nat.add_left_cancel h)
theorem lK{a b m n:Nat}(h:a=b)(l:b<=m)(e:dN m n=true):a<=n:=h▸dK l e
theorem vD{a m n:Nat}(e:dN m n=true):a+m<=a+n:=cV (aE e) a
theorem zw5{a m n:Nat}(h:a<m)(e:dN m (n+1)=true):a<=n:=iJ (aZ h (aE e))
theorem PZ{a m n:Nat}(h:a<m)(e:dN m n=true):a<n:=dK h e
theorem OJ{a m k n:Nat}(h:a<=m)(e:dN (m+k) n=true):a+k<=n:=dK (Nat.add_le_add_right h k) e
theorem UK{a m n:Nat}(h:a=m)(e:ic m n=false):a≠n:=h▸tK e
theorem zwb{a m n:Nat}(h:a=m)(e:dN m n=true):a<=n:=h▸aE e
theorem Y1{a b k m n:Nat}(h:a<=k*b)(l:b<=m)(e:dN (k*m) n=true):a<=n:=dK (aH h (aP k l)) e
theorem N6{a b k m n:Nat}(h:a<=k)(l:b<=m)(e:dN (k+m) n=true):a+b<=n:=dK (Dw h l) e
theorem zwc{a b c m n:Nat}(h:a+b=c)(l:c<=m)(e:dN m n=true):a<=n:=dK (aH (je a b) (h▸l)) e
theorem zwd{a k m n:Nat}(h:a+k<=m)(e:dN m n=true):a<=n:=dK (aH (je a k) h) e
theorem zo1{a:Nat}:2<a->1<a:=λh0=>dJ [(zs (zn 2),av)] (zs (zn 1),av) rt h0
theorem zo2{a:Int}{b:Nat}{c:Prop}:0<=a/\a<=1000/\b<2^64/\c->a<=1000000:=λh0=>oG [(cN,yn 1000)] (cN,yn 1000000) rt h0.2.1
theorem zo3{a b c:Nat}:a=b->c=b->a=c:=λh0 h1=>aS (gF [(av,aW),(aW,bT)] (av,bT) rt (aa h0) (aa (ao h1))) (gF [(av,aW),(bT,av)] (bT,aW) rt (aa (ao h0)) (aa h1))
theorem zo4{a b:Nat}:a+20<b->a<b:=λh0=>fe [(zs (zk av 20),aW)] (zs av,aW) rt h0
theorem zo5{a:Int}{b:Nat}:a.toNat<b->b<=100000->a<2^63:=by omega
theorem zo6{a:Int}:0<=a->¬a<0:=λh0=>λz=>UW [(yn 0,cN),(ys cN,yn 0)] rt h0 z
theorem zo7{a b:Nat}:(a:Int)<(b:Int)->a<b:=by omega
theorem UZ{a b:Nat}:a<=b->a<=b+1:=λh0=>fe [(av,aW)] (av,zs aW) rt h0
theorem zo9{a b c:Nat}:a<b->c=b->a<c:=λh0 h1=>gF [(zs av,aW),(aW,bT)] (zs av,bT) rt h0 (aa (ao h1))
theorem VX{a:Nat}{b:Prop}{c:Nat}:a<=1000/\b->c=a->c<=16777216:=λh0 h1=>fe [(av,zn 1000),(aW,av)] (aW,zn 16777216) rt h0.1 (aa h1)
theorem W4{a b:Nat}:a<b->a+1<=b:=λh0=>fe [(zs av,aW)] (zs av,aW) rt h0
theorem Xb{a b c:Nat}:a+b+c=a+(b+c):=aS (gF [] (zp (zp av aW) bT,zp av (zp aW bT)) rt) (gF [] (zp av (zp aW bT),zp (zp av aW) bT) rt)
theorem aaK{a b:Nat}:a<b->b-a=b-a-1+1:=λh0=>aS (ax.mp (jU [(.sub cN (yn 1),dW),(ys dW,fU)] (cN,fU) rt (aF (ao (cW (ax.mp (zC [(ys cN,dW),(fU,yp vF cN),(dW,fU)] (yn 1,vF) rt (bb.mpr h0) (aF (bj _ _)) (ax.mpr (iV (iU _)))))))) (aF (ao (bj _ _))))) (ax.mp (jU [(cN,.sub dW (yn 1)),(fU,ys cN)] (fU,dW) rt (aF (cW (ax.mp (zC [(ys cN,dW),(fU,yp vF cN),(dW,fU)] (yn 1,vF) rt (bb.mpr h0) (aF (bj _ _)) (ax.mpr (iV (iU _))))))) (aF (bj _ _))))
theorem aam{a b c d:Nat}:a<b->c=b->c=d->a<d:=λh0 h1 h2=>yj [(zs av,aW),(aW,bT),(bT,f9)] (zs av,f9) rt h0 (aa (ao h1)) (aa h2)
theorem abd{a b c:Nat}:a-b=c+1->a-(b+1)=c:=by omega
theorem aaD{a b:Nat}:0=a-b->b<=a->b=a:=λh0 h1=>aS (gF [(zp av aW,bT)] (aW,bT) rt (aa (bM (fe [(av,aW)] (av,aW) rt h1)))) (gF [(av,zn 0),(aW,zp av bT)] (aW,bT) rt (aa (ao h0)) (aa (ao (bM (fe [(av,aW)] (av,aW) rt h1)))))
theorem abT{a b c:Nat}:a=b->a=c->b<=c:=λh0 h1=>gF [(av,aW),(aW,bT)] (av,bT) rt (aa (ao h0)) (aa h1)
theorem abg{a b:Nat}:a<=b->¬0+a>b:=λh0=>λz=>Gp [(av,aW),(zs aW,zp (zn 0) av)] rt h0 z
theorem T_{a:Int}{b:Nat}:(a+(b:Int)-a).toNat=b:=by omega
theorem Tp{a:Int}:0<=a-> -2^62<=a:=by omega
theorem Sv{a:Int}:a<=1000->a<2^62:=λh0=>oG [(cN,yn 1000)] (ys cN,yn 4611686018427387904) rt h0
theorem Gw{a b c:Nat}:1+a+b<c+1->a<c:=λh0=>gF [(zs (zp (zp (zn 1) av) aW),zs bT)] (zs av,bT) rt h0
theorem GA{a b c:Nat}:a+b<c->b<c:=λh0=>gF [(zs (zp av aW),bT)] (zs aW,bT) rt h0
theorem YF{a b:Nat}:1+a<b+1->a<b:=λh0=>fe [(zs (zp (zn 1) av),zs aW)] (zs av,aW) rt h0
theorem IM{a b:Nat}:1+a<b->a<b:=λh0=>fe [(zs (zp (zn 1) av),aW)] (zs av,aW) rt h0
theorem F8{a b c d:Nat}:1+a+b+c<d+1->a<d:=λh0=>yj [(zs (zp (zp (zp (zn 1) av) aW) bT),zs f9)] (zs av,f9) rt h0
theorem Jc{a b c d:Nat}:1+a+b+c<d+1->b<d:=λh0=>yj [(zs (zp (zp (zp (zn 1) av) aW) bT),zs f9)] (zs aW,f9) rt h0
theorem Mp{a b c d:Nat}:1+a+b+c<d+1->c<d:=λh0=>yj [(zs (zp (zp (zp (zn 1) av) aW) bT),zs f9)] (zs bT,f9) rt h0
theorem Xr{a b c:Nat}:1+a+b<c+1->b<c:=λh0=>gF [(zs (zp (zp (zn 1) av) aW),zs bT)] (zs aW,bT) rt h0
theorem Vn{a b c d e:Nat}:1+a+b+c+d<e+1->d<e:=λh0=>QK [(zs (zp (zp (zp (zp (zn 1) av) aW) bT) f9),zs tf)] (zs f9,tf) rt h0
theorem Tz{a:Nat}:0<a->(a:Int)≠0:=by omega
theorem V_{a b:Nat}:a<=b+1->a / 128<=b:=by omega
theorem UL{a:Nat}:a<128->¬128<=(a:Int):=by omega
theorem Ww{a:Nat}:¬a<128->¬(a:Int)<128:=by omega
theorem Rh{a b:Nat}:(a:Int)<=(b:Int)->a<=b:=by omega
theorem Xh{a:Int}:a<128->a.toNat<128:=by omega
theorem Wj{a:Int}:a<128->a<256:=λh0=>oG [(ys cN,yn 128)] (ys cN,yn 256) rt h0
theorem XX{a:Int}:a<128->a<=18446744073709551615:=λh0=>oG [(ys cN,yn 128)] (cN,yn 18446744073709551615) rt h0
theorem LC{a:Nat}:¬(a:Int)<0:=by omega
theorem XQ{a b c:Nat}:a<=10->b<=c->b+a<=c+10:=λh0 h1=>gF [(av,zn 10),(aW,bT)] (zp aW av,zk bT 10) rt h0 h1
theorem Th{a b:Nat}:a<=b->a+1<=b+1:=λh0=>fe [(av,aW)] (zs av,zs aW) rt h0
theorem WE{a b c:Nat}:a+b=c->c<64->a<=100000:=λh0 h1=>gF [(zp av aW,bT),(zs bT,zn 64)] (av,zn 100000) rt (aa h0) h1
theorem WI{a:Nat}:a<=1000->(a:Int)<=1000:=by omega
theorem aaG{a:Nat}:((a:Int)-0).toNat=a:=by omega
theorem Xz{a:Nat}:a<=10->(a:Int)<=18446744073709551615:=by omega
theorem SU{a:Int}:a<=6->a<=18446744073709551615:=λh0=>oG [(cN,yn 6)] (cN,yn 18446744073709551615) rt h0
theorem K9{a b:Nat}:a<=b->¬(b:Int)<(a:Int):=by omega
theorem Be{a:Nat}:0<=(a:Int):=by omega
theorem VT{a b:Nat}:(a:Int)<=(b:Int)->a-b=0:=by omega
theorem YW{a b:Nat}:¬((a+b:Nat):Int)<(a:Int):=by omega
theorem WK{a b:Nat}:((a+b:Nat):Int)+1-(a:Int)=((b+1:Nat):Int):=by omega
theorem La{a b:Nat}:a<b->¬(b:Int)<=(a:Int):=by omega
theorem V2{a:Nat}:a%128+128<256:=dJ [(zs av,zn 128)] (zs (zk av 128),zn 256) rt (fP _ (ia _))
theorem Sh{a:Nat}:(a:Int)<128->¬128<=a:=by omega
theorem Xq{a b:Nat}:0<=(a:Int)+(b:Int):=by omega
theorem Vt{a b c:Nat}:a<=b->a<=b+c:=λh0=>gF [(av,aW)] (av,zp aW bT) rt h0
theorem YG{a:Nat}:¬a+1=0:=λz=>cH [(zs av,zn 0)] rt (aa z)
theorem OQ{a:Nat}:(a:Int)+1=((a+1:Nat):Int):=by omega
theorem VG{a b c:Nat}:a<=10->b<=10->c<=10->a+b+c<=1000000:=λh0 h1 h2=>gF [(av,zn 10),(aW,zn 10),(bT,zn 10)] (zp (zp av aW) bT,zn 1000000) rt h0 h1 h2
theorem PS{a b:Nat}:(a:Int)+(b:Int)=((a+b:Nat):Int):=by omega
theorem Rq{a b c:Nat}:a+(b+1)=c->a<c:=λh0=>gF [(zp av (zs aW),bT)] (zs av,bT) rt (aa h0)
theorem oE{a:Nat}:a<2^64->(a:Int)<=18446744073709551615:=by omega
theorem XE{a b:Nat}:a<=10*b->b<=30->1+a+4<=400:=λh0 h1=>fe [(av,zm 10 aW),(zm 10 aW,zm 10 (zn 30))] (zk (zp (zn 1) av) 4,zn 400) rt h0 (aP 10 h1)
theorem Yi{a b c:Nat}:a+b+c<=6000->a+1<=1000000:=λh0=>gF [(zp (zp av aW) bT,zn 6000)] (zs av,zn 1000000) rt h0
theorem Tt{a:Nat}:(a:Int)=0->a=0:=by omega
theorem Wf{a b c d e:Nat}:a<=10->b<=10->c<=10->d<=210->e<=210->a+b+c+d+e+1<=1000000:=λh0 h1 h2 h3 h4=>QK [(av,zn 10),(aW,zn 10),(bT,zn 10),(f9,zn 210),(tf,zn 210)] (zs (zp (zp (zp (zp av aW) bT) f9) tf),zn 1000000) rt h0 h1 h2 h3 h4
theorem X7{a b:Nat}:a+5<=b->a<=b:=λh0=>fe [(zk av 5,aW)] (av,aW) rt h0
theorem Vl{a:Int}{b:Nat}:a<=200*((b:Int)+1)->a<=200*(((b+1:Nat):Int)+1):=by omega
theorem Xe{a b:Nat}:110<=a+b->110<=a+(b+1):=λh0=>fe [(zn 110,zp av aW)] (zn 110,zp av (zs aW)) rt h0
theorem XZ{a b:Nat}:a<=2^57+100*b->a<=2^57+100*(b+1):=λh0=>fe [(av,zp (zn 144115188075855872) (zm 100 aW))] (av,zp (zn 144115188075855872) (zm 100 (zs aW))) rt h0
theorem Y4{a:Nat}:a≠a+1:=λz=>cH [(zs av,av)] rt (aa (ao z))
theorem VZ{a b:Nat}:a=1->b=a+1->b=2:=λh0 h1=>aS (fe [(av,zn 1),(aW,zs av)] (aW,zn 2) rt (aa h0) (aa h1)) (fe [(zn 1,av),(zs av,aW)] (zn 2,aW) rt (aa (ao h0)) (aa (ao h1)))
theorem WM{a:Nat}:a=1\/a=4->a≠0:=λh0=>λb=>h0.elim (λz=>cH [(av,zn 0),(zn 1,av)] rt (aa b) (aa (ao z))) (λz=>cH [(av,zn 0),(zn 4,av)] rt (aa b) (aa (ao z)))
theorem Vi{a b:Nat}:a=b+1->a≠0:=λh0=>λz=>Gp [(zs av,aW),(aW,zn 0)] rt (aa (ao h0)) (aa z)
theorem WV{a:Nat}:a%3<=2:=dJ [(zs av,zn 3)] (av,zn 2) rt (fP _ (ia _))
theorem Np{a:Nat}:a%4<=3:=dJ [(zs av,zn 4)] (av,zn 3) rt (fP _ (ia _))
theorem Ye{a b:Nat}:a<b->(a:Int)<(b:Int):=by omega
theorem VL{a:Nat}:0<=(a:Int)*2:=by omega
theorem Vo{a:Nat}:((a%2:Nat):Int)*2<=18446744073709551615:=by omega
theorem Sy{a:Nat}:1<=a/\a<=5->1<=a/\a<=14:=λh0=>⟨h0.1,dJ [(av,zn 5)] (av,zn 14) rt h0.2⟩
theorem WW{a:Nat}:a=1\/a=3\/a=6->1<=a/\a<=14:=λh0=>⟨h0.elim (λW=>dJ [(zn 1,av)] (zn 1,av) rt (aa (ao W))) (λW=>W.elim (λV=>dJ [(zn 3,av)] (zn 1,av) rt (aa (ao V))) (λV=>dJ [(zn 6,av)] (zn 1,av) rt (aa (ao V)))),h0.elim (λR=>dJ [(av,zn 1)] (av,zn 14) rt (aa R)) (λR=>R.elim (λF=>dJ [(av,zn 3)] (av,zn 14) rt (aa F)) (λF=>dJ [(av,zn 6)] (av,zn 14) rt (aa F)))⟩
theorem Xu{a:Nat}:a=14->1<=a/\a<=14:=λh0=>⟨dJ [(zn 14,av)] (zn 1,av) rt (aa (ao h0)),dJ [(av,zn 14)] (av,zn 14) rt (aa h0)⟩
theorem Xp{a:Nat}:a≠a+2:=λF=>cH [(zk av 2,av)] rt (aa (ao F))
theorem Yg{a:Nat}:20+5<=a->a≠20/\a≠21:=λh0=>⟨λM=>cH [(zk (zn 20) 5,av),(av,zn 20)] rt h0 (aa M),λb=>cH [(zk (zn 20) 5,av),(av,zn 21)] rt h0 (aa b)⟩
theorem WG{a:Nat}:((a%10:Nat):Int)≠8->((a%10:Nat):Int)≠9->a%10<=7:=by omega
theorem Vp{a:Int}{b c:Nat}:a=(b:Int)->a+1+(c:Int)=((b+1+c:Nat):Int):=by omega
theorem XT{a:Nat}:a=0->(a:Int)=0:=by omega
theorem Xg{a b:Nat}:a<5->b=a->b<=100000:=λh0 h1=>fe [(zs av,zn 5),(aW,av)] (aW,zn 100000) rt h0 (aa h1)
theorem Y3{a:Nat}:(a:Int)≠0->0<a:=by omega
theorem Yv{a:Nat}:a+2=1\/a+2=3\/a+2<=a+2/\a+2<=a+4:=.inr (.inr (⟨dJ [] (zk av 2,zk av 2) rt,dJ [] (zk av 2,zk av 4) rt⟩))
theorem YT{a:Nat}:a+3=1\/a+3=3\/a+2<=a+3/\a+3<=a+4:=.inr (.inr (⟨dJ [] (zk av 2,zk av 3) rt,dJ [] (zk av 3,zk av 4) rt⟩))
theorem Ya{a:Nat}:a+4=1\/a+4=3\/a+2<=a+4/\a+4<=a+4:=.inr (.inr (⟨dJ [] (zk av 2,zk av 4) rt,dJ [] (zk av 4,zk av 4) rt⟩))
theorem VB{a:Nat}:0<=1+(a:Int):=by omega
theorem Yu{a:Nat}:1<=a/\a<=14->a≠0/\a<=24/\a≠20/\a≠21:=λh0=>⟨λC=>cH [(zn 1,av),(av,zn 0)] rt h0.1 (aa C),⟨dJ [(av,zn 14)] (av,zn 24) rt h0.2,⟨λM=>cH [(av,zn 14),(zn 20,av)] rt h0.2 (aa (ao M)),λb=>cH [(av,zn 14),(zn 21,av)] rt h0.2 (aa (ao b))⟩⟩⟩
theorem TM:20+5<=24->False:=by omega
theorem VM:20+7<=24->False:=by omega
theorem Vv{a:Nat}:((a%7:Nat):Int)<=6:=by omega
theorem VF{a b c:Nat}:a=b->c=b->a<=c:=λh0 h1=>gF [(av,aW),(aW,bT)] (av,bT) rt (aa h0) (aa (ao h1))
theorem VQ{a b:Nat}:a<=2*(b+1)->b<=20->a<=100:=λh0 h1=>fe [(av,zm 2 (zs aW)),(zm 2 aW,zm 2 (zn 20))] (av,zn 100) rt h0 (aP 2 h1)
theorem Me{a:Nat}:1+(a:Int)=((1+a:Nat):Int):=by omega
theorem Qk{a b c:Nat}:1+a%2=b->c=b->c<=1000:=λh0 h1=>gF [(av,zp (zn 1) aW),(bT,av),(zs aW,zn 2)] (bT,zn 1000) rt (aa (ao h0)) (aa h1) (fP _ (ia _))
theorem Q3{a b c d:Nat}:1+a%2=b->c=b->c=d+1->d<=100:=λh0 h1 h2=>yj [(av,zp (zn 1) aW),(bT,av),(zs f9,bT),(zs aW,zn 2)] (f9,zn 100) rt (aa (ao h0)) (aa h1) (aa (ao h2)) (fP _ (ia _))
theorem Qg{a:Nat}:0<(a:Int)->0<a:=by omega
theorem Qr{a:Nat}:40<=a->a≠0:=λh0=>λK=>cH [(zn 40,av),(av,zn 0)] rt h0 (aa K)
theorem Ni{a:Nat}:a=1\/a=3\/20<=a/\a<=20+10->a≠0:=λh0=>λA=>h0.elim (λD=>cH [(av,zn 0),(zn 1,av)] rt (aa A) (aa (ao D))) (λD=>D.elim (λC=>cH [(av,zn 0),(zn 3,av)] rt (aa A) (aa (ao C))) (λC=>cH [(av,zn 0),(zn 20,av)] rt (aa A) C.1))
@[elab_as_elim] theorem nb1{P:Nat->Prop}{k:Nat}(h:k<1)(p0:P 0):P k:=Nat.lt_one_iff.mp h▸p0
@[elab_as_elim] theorem nb2{P:Nat->Prop}{k:Nat}(h:k<2)(p0:P 0)(p1:P 1):P k:=(d9.mp h).elim (λh=>nb1 h p0) λe=>e▸p1
@[elab_as_elim] theorem UG{P:Nat->Prop}{k:Nat}(h:k<3)(p0:P 0)(p1:P 1)(p2:P 2):P k:=(d9.mp h).elim (λh=>nb2 h p0 p1) λe=>e▸p2
@[elab_as_elim] theorem VD{P:Nat->Prop}{k:Nat}(h:k<4)(p0:P 0)(p1:P 1)(p2:P 2)(p3:P 3):P k:=(d9.mp h).elim (λh=>UG h p0 p1 p2) λe=>e▸p3
@[elab_as_elim] theorem nb5{P:Nat->Prop}{k:Nat}(h:k<5)(p0:P 0)(p1:P 1)(p2:P 2)(p3:P 3)(p:P 4):P k:=(d9.mp h).elim (λh=>VD h p0 p1 p2 p3) λe=>e▸p
@[elab_as_elim] theorem nb6{P:Nat->Prop}{k:Nat}(h:k<6)(p0:P 0)(p1:P 1)(p2:P 2)(p3:P 3)(a:P 4)(p:P 5):P k:=(d9.mp h).elim (λh=>nb5 h p0 p1 p2 p3 a) λe=>e▸p
@[elab_as_elim] theorem nb7{P:Nat->Prop}{k:Nat}(h:k<7)(p0:P 0)(p1:P 1)(p2:P 2)(p3:P 3)(b:P 4)(a:P 5)(p:P 6):P k:=(d9.mp h).elim (λh=>nb6 h p0 p1 p2 p3 b a) λe=>e▸p
@[elab_as_elim] theorem Vx{P:Nat->Prop}{k:Nat}(h:k<8)(p0:P 0)(p1:P 1)(p2:P 2)(p3:P 3)(c:P 4)(b:P 5)(a:P 6)(p:P 7):P k:=(d9.mp h).elim (λh=>nb7 h p0 p1 p2 p3 c b a) λe=>e▸p
section
variable{M:Model}
variable{A:Around}
variable{Ex:Value->Shared->Prop}
variable{s:Shared}
variable{au:mq}
variable{af:eA}
variable{w:bY}
section
open Sem (wp)
noncomputable def rU:List String:=fV++["bytearray.__contains__","bytearray.__mod__","bytearray.__rmod__","_struct.pack_into.held","bytearray.find.held"]
def oy:Code->Bool
 | .builtin id _=>!(rU.contains id)
 |_=>true
def OkB(Γ:Ctx):Prop:=∀x∈Γ.below,oy x.1=true
def bN{α:Type}(M:Model)(A:Around)(t:Sem α)(Q:α->Shared->Prop)(Ex:Value->Shared->Prop)(s:Shared):Prop:=
 ∀Γ p,Γ.In A->oy Γ.code=true->OkB Γ->wp M Γ t (λa _ s'=>Q a s') (λe _ s'=>Ex e s') p s
def dU(M:Model)(A:Around)(c:Code)(R:Dx->Shared->Prop)(s:Shared):Prop:=
 oy c=true/\∀Γ p,Γ.code=c->Γ.Below A->OkB Γ->wpCode M Γ R p s
section
variable{α β:Type}
theorem bc(h:bP M A t Q Ex s):bN M A t Q Ex s:=λa p x _ _=>h a p x
theorem bh(h:Q a s):bN M A (pure a) Q Ex s:=λ_ _ _ _ _=>h
theorem p_mono(h:bN M A t Q Ex s)(c:∀a s,Q a s->Q' a s)(d:∀e s,Ex e s->E' e s):bN M A t Q' E' s:=
 λb p x h1 h2=>vG M b t (λa _ s=>c a s) (λe _ s=>d e s) p s (h b p x h1 h2)
theorem az(h:bN M A m (λa s'=>bN M A (f a) Q Ex s') Ex s):bN M A (m>>= f) Q Ex s:=λb p x h1 h2=>by
 rw[Sem.wp_bind'];exact vG M b m (λa d s' c=>c b d x h1 h2) (λ_ _ _ c=>c) p s (h b p x h1 h2)
theorem pg(h:bN M A m Q (λe s'=>bN M A (k e) (λ_ C=>Ex e C) Ex s') s):bN M A (m.onRaise k) Q Ex s:=λa p x h1 h2=>by
 rw[Sem.wp_onRaise];exact vG M a m (λ_ _ _ b=>b) (λe c s' b=>b a c x h1 h2) p s (h a p x h1 h2)
theorem By{Q:Except Value α->Shared->Prop}(h:bN M A m (λa=>Q (.ok a)) (λe=>Q (.error e)) s):bN M A m.attempt Q Ex s:=λb p x h1 h2=>by rw[Sem.wp_attempt];exact h b p x h1 h2
theorem bK(h:bN M A m Q Ex s):bN M A (holding vs m) Q Ex s:=λa p x h1 h2=>by rw[Sem.wp_holding];exact h a p x h1 h2
theorem bz(h:Q () s):bN M A (standAt pos) Q Ex s:=λ_ _ _ _ _=>h
theorem FZ(h:Q () s):bN M A (rule tag) Q Ex s:=λ_ _ _ _ _=>h
theorem H_(h:Q () s):bN M A point Q Ex s:=bc (wpAny_point h)
theorem pC(h:bN M A m Q Ex s):bN M A (operate vs m) Q Ex s:=λa p x h1 h2=>by rw[Sem.wp_operate];exact h a p x h1 h2
theorem xS(h:Q () s):bN M A (release vs l) Q Ex s:=λa p x h1 h2=>by rw[Sem.wp_release];exact h
theorem Yz(h:Q ⟨M.prog,M.w.params⟩ s):bN M A ask Q Ex s:=bc (wpAny_askSetting h)
theorem tV(e:t=t')(h:bN M A t' Q Ex s):bN M A t Q Ex s:=e▸h
theorem kP(h:dU M A c R s)(d:∀r s,R r s->R' r s):dU M A c R' s:=⟨h.1,λa p b x h1=>wpCode_mono d (h.2 a p b x h1)⟩
theorem BH(h1:oy Γ.code=true)(h2:OkB Γ):OkB (Γ.enter c h p):=λx hx=>by
 rcases bE.mp hx with rfl|hx
 ·exact h1
 ·exact h2 x hx
theorem QR(b:dU M (A.mark h) c (λr s'=>match r with| .ok f=>Q f s'| .error e=>Ex e s') s)(T:h≠some byPass:=by intro x;cases x):
  bN M A (run c h) Q Ex s:=λd p a h1 h2=>by rw[Sem.wp_run];exact b.2 _ p rfl (a.enter c h p T) (BH h1 h2)
theorem GN(h:dU M A c (λr s'=>match r with| .ok (.ret v)=>Q v s'| .ok _=>False| .error e=>Ex e s') s):bN M A (runValue c) Q Ex s:=
 λb p a h1 h2=>by rw[Sem.wp_runValue];exact h.2 _ p rfl (a.enter c none p (by intro x;injection x)) (BH h1 h2)
theorem sg(h:dU M A (.call f ⟨pos,kw⟩) (λr s'=>match r with| .ok (.ret v)=>Q v s'| .ok _=>False| .error e=>Ex e s') s):bN M A (call f pos kw) Q Ex s:=GN h
theorem gJ(b:oy c=true)(h:bN M (A.under c) (M.den c) (λa s'=>match a with| .done f=>R (.ok f) s'| .again g=>g.quiet=true/\dU M A g R s') (λe s'=>R (.error e) s') s):dU M A c R s:=
 ⟨b,λi p j x h1=>by
  rewrite[wpCode_iff_wp];erw[aj j,<-vG M i _ (λa k s' d=>?_) (λ_ _ _ d=>d) p s (h i p (j▸x.in) (j▸b) h1)]
  induction a using PySem.Fin.casesOn with
  |done f=>exact d
  |again g=>exact⟨d.1,d.2.2 (i.goto g) k rfl (x.goto g) h1⟩⟩
theorem Po(g:c.quiet=true)(d:oy c=true)(I:Nat->Shared->Prop)(t:∀n s,I n s->bN M (A.under c) (M.den c) (λa s'=>match a with| .done f=>R (.ok f) s'| .again b=>(b=c/\∃m,m<n/\I m s')\/(b.quiet=true/\dU M A b R s')) (λe s'=>R (.error e) s') s)(n:Nat)(h:I n s):dU M A c R s:=by
 induction n using Nat.strongRecOn generalizing s with
 |ind n i=>
  refine gJ d (p_mono (t n s h) (λa s' hf=>?_) λ_ _ j=>j)
  induction a using PySem.Fin.casesOn with
  |done f=>exact hf
  |again b=>
   rcases hf with⟨rfl,m,hm,hI⟩|hf
   ·exact⟨g,i m hm hI⟩
   ·exact hf
def oi(M:Model)(A:Around)(au:mq)(Ex:Value->Shared->Prop):Value->Shared->Prop:=λx s'=>bN M A (do
  if(<-field x 1) == .none then yT "frame.own-activation:exception-without-traceback"
  setFlight x au.frame) (λ_ CD=>Ex x CD) Ex s'
theorem wK(a:dU M (A.mark h) c (λr s'=>match r with| .ok f=>Q f s'| .error e=>oi M A au Ex e s') s)(T:h≠some byPass:=by intro x;cases x):
  bN M A (runOwn c au h) Q Ex s:=by
 exact pg (QR a T)
def kH(M:Model)(A:Around)(au:mq)(Ex:Value->Shared->Prop):Value->Shared->Prop:=λx s'=>bN M A (noteFrame x au) (λ_ CD=>Ex x CD) Ex s'
theorem tG(h:bN M A m Q (kH M A au Ex) s):bN M A (m.onRaise λx=>do noteFrame x au;o6 x) Q Ex s:=
 pg (p_mono h (λ_ _ q=>q) λ_ _ a=>az (p_mono a (λ_ _ e=>bc (wpAny_theTreesLotGoes e)) λ_ _ e=>e))
end
theorem yk(h:Q [] s):bN M A (spliced (backTo pos (starEach [] au))) Q Ex s:=bc (wpAny_items_nil h)
theorem pK(h:bN M A (eval e au) (λv b=>bN M A (spliced (backTo pos (starEach rest au))) (λvs c=>Q (v::vs) c) Ex b) Ex s)(a:starEach (e::rest) au=(false,eval e au)::starEach rest au):bN M A (spliced (backTo pos (starEach (e::rest) au))) Q Ex s:=by
 erw[aj a];show bN M A (do let v<-eval e au;let vs<-holding [v] (spliced (backTo pos (starEach rest au)));pure (v::vs)) Q Ex s;exact az (p_mono h (λv b f=>az (bK (p_mono f (λvs c d=>bh d) λ_ _ x=>x))) λ_ _ x=>x)
theorem Hq{l op r pos}(h:bN M A (eval l au) (λa d=>bN M A (eval r au) (λb c=>bN M A (binaryOp op a b) Q Ex c) Ex d) Ex s):bN M A (eval (.BinOp l op r pos) au) Q Ex s:=by
 exact az (p_mono h (λa d f=>az (bK (p_mono f (λb c e=>az (bz (pC e))) λ_ _ x=>x))) λ_ _ x=>x)
theorem zP{l op r pos}(h:bN M A (eval l au) (λa d=>bN M A (eval r au) (λb c=>bN M A (compareOp op a b) Q Ex c) Ex d) Ex s)(e:AW op r=false):
  bN M A (eval (.Compare l [op] [r] pos) au) Q Ex s:=by
 rewrite[eval_Compare1];erw[aj (markedBehindIn_of_false e),<-az (p_mono h (λa d g=>az (bK (p_mono g (λb c f=>az (bz (pC f))) λ_ _ x=>x))) λ_ _ x=>x)]
theorem nS{l op r pos whole}(h:bN M A (eval l au) (λa e=>bN M A (eval r au) (λb d=>bN M A (compareOp op a b) (λc i=>bN M A (truthy c) Q Ex i) Ex d) Ex e) Ex s)(f:AW op r=false):
  bN M A (isTrue (.Compare l [op] [r] pos) au whole) Q Ex s:=by
 rewrite[isTrue_Compare1];erw[aj (markedBehindIn_of_false f),<-az (p_mono h (λa e j=>az (bK (p_mono j (λb d g=>az (bz (az (pC (p_mono g (λc i o=>bK o) λ_ _ x=>x))))) λ_ _ x=>x))) λ_ _ x=>x)]
theorem BK{op x pos}(h:bN M A (eval x au) (λv b=>bN M A (unaryOp op v) Q Ex b) Ex s):bN M A (eval (.UnaryOp op x pos) au) Q Ex s:=by
 exact az (p_mono h (λv b c=>az (bz (bK c))) λ_ _ x=>x)
theorem Pc{test body orelse pos}(h:bN M A (isTrue test au (eval test au)) (λc a=>if c then bN M A (eval body au) Q Ex a else bN M A (eval orelse au) Q Ex a) Ex s):bN M A (eval (.IfExp test body orelse pos) au) Q Ex s:=by
 refine az (p_mono h (λc a e=>?_) λ_ _ x=>x)
 induction c using tQ<;>exact e
theorem Aa{test body orelse pos whole}(h:bN M A (isTrue test au (eval test au)) (λc a=>if c then bN M A (isTrue body au (eval body au)) Q Ex a else bN M A (isTrue orelse au (eval orelse au)) Q Ex a) Ex s):
  bN M A (isTrue (.IfExp test body orelse pos) au whole) Q Ex s:=by
 refine az (p_mono h (λc a e=>?_) λ_ _ x=>x)
 induction c using tQ<;>exact e
theorem CY{x pos whole}(h:bN M A (isTrue x au (eval x au)) (λc s'=>Q (!c) s') Ex s):bN M A (isTrue (.UnaryOp .Not x pos) au whole) Q Ex s:=by
 exact az (p_mono h (λc s' a=>bh a) λ_ _ x=>x)
theorem sC(h:bN M A whole (λv b=>bN M A (truthy v) Q Ex b) Ex s)(a:isTrue e au whole=(do let v<-whole;standAt e.pos;holding [v] (truthy v))):bN M A (isTrue e au whole) Q Ex s:=by
 erw[aj a,<-az (p_mono h (λv b c=>az (bz (bK c))) λ_ _ x=>x)]
theorem CB{FF G9 rest pos}(h:bN M A (eval FF au) (λv b=>bN M A (truthy v) (λc a=>if c then bN M A (eval (.BoolOp .And (G9::rest) pos) au) Q Ex a else Q v a) Ex b) Ex s):
  bN M A (eval (.BoolOp .And (FF::G9::rest) pos) au) Q Ex s:=by
 show bN M A (do
  let v<-eval FF au
  standAt pos
  let c<-holding [v] (truthy v)
  match BoolOp.And,c with
  | .And,false| .Or,true=>pure v
  |_,_=>boolOp pos .And (eval G9 au::evalEach rest au)) Q Ex s
 refine az (p_mono h (λv b d=>az (bz (az (bK (p_mono d (λc a e=>?_) λ_ _ x=>x))))) λ_ _ x=>x)
 induction c using tQ with
 |false=>exact bh e
 |true=>exact e
theorem EV{FF G9 rest pos}(h:bN M A (eval FF au) (λv b=>bN M A (truthy v) (λc a=>if c then Q v a else bN M A (eval (.BoolOp .Or (G9::rest) pos) au) Q Ex a) Ex b) Ex s):
  bN M A (eval (.BoolOp .Or (FF::G9::rest) pos) au) Q Ex s:=by
 show bN M A (do
  let v<-eval FF au
  standAt pos
  let c<-holding [v] (truthy v)
  match BoolOp.Or,c with
  | .And,false| .Or,true=>pure v
  |_,_=>boolOp pos .Or (eval G9 au::evalEach rest au)) Q Ex s
 refine az (p_mono h (λv b d=>az (bz (az (bK (p_mono d (λc a e=>?_) λ_ _ x=>x))))) λ_ _ x=>x)
 induction c using tQ with
 |false=>exact e
 |true=>exact bh e
theorem Ct{x rest pos whole}(h:bN M A (isTrue x au (eval x au)) (λc s'=>if c then bN M A (isTrue (.BoolOp .And rest pos) au whole) Q Ex s' else Q false s') Ex s):
  bN M A (isTrue (.BoolOp .And (x::rest) pos) au whole) Q Ex s:=by
 show bN M A (do
  match BoolOp.And,<-isTrue x au (eval x au) with
  | .And,false=>pure false
  | .Or,true=>pure true
  |_,_=>allTrue .And rest au) Q Ex s
 refine az (p_mono h (λc s' a=>?_) λ_ _ x=>x)
 induction c using tQ with
 |false=>exact bh a
 |true=>exact a
theorem DS{x rest pos whole}(h:bN M A (isTrue x au (eval x au)) (λc s'=>if c then Q true s' else bN M A (isTrue (.BoolOp .Or rest pos) au whole) Q Ex s') Ex s):
  bN M A (isTrue (.BoolOp .Or (x::rest) pos) au whole) Q Ex s:=by
 show bN M A (do
  match BoolOp.Or,<-isTrue x au (eval x au) with
  | .And,false=>pure false
  | .Or,true=>pure true
  |_,_=>allTrue .Or rest au) Q Ex s
 refine az (p_mono h (λc s' a=>?_) λ_ _ x=>x)
 induction c using tQ with
 |false=>exact a
 |true=>exact bh a
theorem Se(h:bN M A (spliced (backTo pos (starEach elts au))) (λvs b=>vs.length<=ie/\Q (.ref b.heap.objs.size) {b with heap:=b.heap.push {cls:=.type "list",data:=.seq vs.toArray}}) Ex s):
  bN M A (eval (.List elts pos) au) Q Ex s:=by
 exact az (bz (az (p_mono h (λvs b c=>bc (wpAny_newObj_type c.2 (by show vs.toArray.size<=ie;erw[aj kJ,<-c.1]))) λ_ _ x=>x)))
theorem Pm(h:bN M A (spliced (backTo pos (starEach elts au))) (λvs b=>vs.length<=ie/\Q (.ref b.heap.objs.size) {b with heap:=b.heap.push {cls:=.type "tuple",data:=.seq vs.toArray}}) Ex s):
  bN M A (eval (.Tuple elts k pos) au) Q Ex s:=by
 exact az (bz (az (p_mono h (λvs b c=>bc (wpAny_newObj_type c.2 (by show vs.toArray.size<=ie;erw[aj kJ,<-c.1]))) λ_ _ x=>x)))
theorem Hm(h:bN M A (evalPart lower au) (λl b=>bN M A (evalPart upper au) (λu c=>Q (.ref c.heap.objs.size) {c with heap:=c.heap.push {cls:=.type "slice",data:=.fields #[l,u,.none]}}) Ex b) Ex s):
  bN M A (eval (.Slice lower upper none p) au) Q Ex s:=by
 erw[<-az (p_mono h (λl b a=>az (bK (p_mono a (λu c e=>az (bK (bh ?_))) λ_ _ x=>x))) λ_ _ x=>x),<-bc (wpAny_newObj_type e)]
theorem s7{value slice pos}(h:bN M A (eval value au) (λo b=>bN M A (eval slice au) (λi c=>bN M A (subscriptTail value slice o i) Q Ex c) Ex b) Ex s):
  bN M A (eval (.Subscript value slice pos) au) Q Ex s:=by
 exact az (p_mono h (λo b a=>az (bK (p_mono a (λi c e=>az (bz e)) λ_ _ x=>x))) λ_ _ x=>x)
theorem EL(h:bN (model af w) A (eval value au) (λo b=>bN (model af w) A (getAttr o attr true) Q Ex b) Ex s)(a:tL value attr au (eval value au)=eval value au):bN (model af w) A (eval (.Attribute value attr pos) au) Q Ex s:=by
 show bN _ A (do let o<-tL value attr au (eval value au);standAt pos.atName;let r<-holding [o] (getAttr o attr true);letTemporaryGo value o r;pure r) Q Ex s;erw[aj a,<-az (p_mono h (λo b c=>az (bz (az (bK (p_mono c (λr d e=>az (bc (wpAny_letTemporaryGo (bh e)))) λ_ _ x=>x))))) λ_ _ x=>x)]
end
theorem SJ(h:bN M A m Q Ex s):bN M A (m.keep vs) Q Ex s:=λa p x h1 h2=>by rw[Sem.wp_keep];exact h a p x h1 h2
theorem FA(t:args.any (·.1)=false)(h:bN M A (spliced args) (λvs s'=>Q ⟨vs,[]⟩ s') Ex s):bN M A (evalArgs f true args []) Q Ex s:=by
 induction args using lcs with
 |nil=>
  unfold evalArgs;erw[<-az (p_mono h (λvs s' c=>?_) λ_ _ x=>x),<-az (bh (bK ?_)),<-az (bh (az (bh (bh c))))]
 |cons a r=>
  rcases a with⟨b,x⟩
  induction b using tQ with
  |true=>injection t
  |false=>
   unfold evalArgs;erw[<-az (p_mono h (λvs s' c=>?_) λ_ _ x=>x),bK,<-az (bh (az (bh (bh c))))]
def vp(M:Model)(A:Around)(f:Value)(Ex:Value->Shared->Prop)(s:Shared):Prop:=∃k,(k=Keeper.frame\/k=Keeper.machine)/\∀Q:Keeper->Shared->Prop,Q k s->bP M A (keeperOf f) Q Ex s
theorem gE{id:String}:vp M A (.builtin id) Ex s:=⟨.machine,.inr rfl,λ_ h=>wpAny_pure h⟩
theorem kD:vp M A (.type T) Ex s:=⟨.machine,.inr rfl,λ_ h=>wpAny_pure h⟩
theorem Cx{K:fg}(c:IC K f=true)(X:K.In s.heap):vp M A f Ex s:=by
 erw[ay (looks_keep (M:=M) c X),(k a b),<-⟨k,a,λQ h=>b.here h⟩]
theorem aat{P:α->Prop}[Decidable c](h1:P a)(h2:P b):P (if c then a else b):=by split<;>assumption
theorem Ah(e:args.any (·.1)=false)(h:bN M A (spliced args) (λvs b=>vp M A f Ex b/\bN M A (call f (first++vs)) Q Ex b) Ex s):bN M A (callWith pos f first args []) Q Ex s:=by
 unfold callWith;erw[<-az (bK (FA e (p_mono h (λvs b c=>az (bz ?_)) λ_ _ x=>x))),aD c];clear c;erw[(i c),ay i,(k d L),aj (show(args.any (·.1) ||([]:List (Option Str×Sem Value)).any (·.1.isNone))=false by rw[e];rfl),<-az (bc (L _ ?_))];have a:∀{t:Sem Value},bN M A t Q Ex b->bN M A (t>>= λr=>holding [r] point>>= λ_=>pure r) Q Ex b:=
  λg=>az (p_mono g (λr j hr=>az (bK (H_ (bh hr)))) λ_ _ x=>x)
 have marked mk:bN M A (callMarked mk f (first++vs) []) Q Ex b:=by unfold callMarked;exact SJ c
 rcases d with rfl|rfl<;>dsimp only<;>first|exact a c|exact aat (P:=λt=>bN M A t Q Ex b) (a c) (a (marked _))
theorem xr(h:(starEach es au).any (·.1)=false):(backTo pos (starEach es au)).any (·.1)=false:=by
 unfold backTo;erw[aj List.any_map,<-h]
theorem jj(t:(starEach args au).any (·.1)=false)(h:bN M A (eval (.Name x np) au) (λf b=>bN M A (spliced (backTo pos (starEach args au))) (λvs c=>vp M A f Ex c/\bN M A (call f vs) Q Ex c) Ex b) Ex s):
  bN M A (eval (.Call (.Name x np) args [] pos) au) Q Ex s:=by
 exact az (p_mono h (λf b a=>Ah (xr t) a) λ_ _ x=>x)
theorem Ca(t:(starEach args au).any (·.1)=false)(j:tL o name au (eval o au)=eval o au)(l:args.length<20)(hl:(apos.endLine==pos.line)=true)(h:bN M A (eval o au) (λb d=>∀p,bN M A (getMethod b name p) (λa c=>bN M A (spliced (backTo pos (starEach args au))) (λvs i=>vp M A a.1 Ex i/\bN M A (call a.1 (a.2++vs)) Q Ex i) Ex c) Ex d) Ex s):
  bN M A (eval (.Call (.Attribute o name apos) args [] pos) au) Q Ex s:=by
 show bN M A (do let b<-tL o name au (eval o au);standAt apos.atName;methodCall o name apos pos au b (args.length+([]).length) (backTo pos (starEach args au)) (backToKw pos (keywordEach [] au))) Q Ex s;erw[aj j,<-az (p_mono h (λb d m=>az (bz ?_)) λ_ _ x=>x)];have g:methodCallForm (args.length+([]:List Keyword).length) (backTo pos (starEach args au)) (backToKw pos (keywordEach [] au))=true:=by
  have h1:(backTo pos (starEach args au)).all (!·.1)=true:=by
   rw[cJ];intro x e;have:=y7.mp (xr t) x e
   simpa using this
  unfold methodCallForm;erw[aj h1];show(true&&true&&decide (args.length+0+0<30))=true
  simp;exact PZ l rfl
 unfold methodCall calleeOf methodCallPos;erw[aj g,aj hl,<-az (bK (p_mono (m _) (λa c k=>?_) λ_ _ x=>x))];rcases a with⟨f,first⟩
 erw[<-az (bh ?_),<-Ah (xr t) k]
theorem Ju[Decidable c](h:bN M A (k ()) Q Ex s):bN M A (if c then(standAt pos>>= k) else k ()) Q Ex s:=by
 split
 ·exact az (bz h)
 ·exact h
def BI(M:Model)(A:Around)(Ex:Value->Shared->Prop)(use:Option (Value->Sem Unit))(Q:Value->Shared->Prop)(cL:Value)(C:Addr)(r:Dx)(s':Shared):Prop:=
 match r,use with
 | .ok _,none=>∃m,s'.heap.Ns C m/\∀h',d_ C s'.heap h'->Q cL {s' with heap:=h'}
 | .ok _,some u=>bN M A (u cL) (λ_ CD=>∃m,CD.heap.Ns C m/\∀h',d_ C CD.heap h'->Q .none {CD with heap:=h'}) Ex s'
 | .error _,_=>False
theorem Uz(J:clausesOf e=g::gs)(C:∀x,gw g.iter au x=pure x)(F:closureFor scope au=pure cl)(w:scope.kind=.function)(U:∀x∈scope.names,x.2=.local->scope.names.lookup x.1=some .local)(h:bN M A first (λx t=>bN M A (pyIter x) (λo q=>bN M A Ud (λn p=>bN M A (newFunctionEnv scope au.globals cl [] au.qual none .none (some au)) (λd v=>
    dU M A (.compStart e 0 o n {d with scope:=relabel scope au}) (BI M A Ex use Q n d.locals) v) Ex p) Ex q) Ex t) Ex s):
  bN M A (comprehension e scope au pos Ud false first use) Q Ex s:=by
 unfold comprehension;erw[aj F,aj J];refine az (p_mono h (λx t E=>az (bz (az (tV (C x) (bh (az (bK (p_mono E (λo q D=>
  Ju (az (p_mono D (λn p z=>az (bh (az (p_mono z (λd v G=>?_) λ_ _ a=>a)))) λ_ _ a=>a)))
   λ_ _ a=>a)))))))) λ_ _ a=>a)
 dsimp only;have k:∀x∈(scope.names.filter λx=>(x.2== .local||x.2== .cell) &&x.1 !=(".0":Str)).reverse,x.2=.local->
   o7 {d with scope:=relabel scope au} x.1=some .local:=λx i hl=>lookup_relabel_local (U x (List.mem_filter.mp (List.mem_reverse.mp i)).1 hl)
 have j:∀x∈(scope.names.filter λx=>(x.2== .local||x.2== .cell) &&x.1 !=(".0":Str)).reverse.drop 1++(scope.names.filter λx=>(x.2== .local||x.2== .cell) &&x.1 !=(".0":Str)).reverse.take 1,
   x.2=.local->o7 {d with scope:=relabel scope au} x.1=some .local:=λx i hl=>by
  rcases cC.mp i with h1|h1
  ·exact k x (JI h1) hl
  ·exact k x (mr h1) hl
 refine bK (az (By (bK (QR (kP G λr y hr=>?_)))))
 induction r using Except.casesOn with
 |ok f=>
  induction use using tT with
  |none=>
   erw[ay hr];clear hr;erw[(m l hr),<-bc (wpAny_bind (wpAny_holding (wpAny_comp_letGo w _ y m k l λa B _ c=>wpAny_pure (hr a c))))]
  |some u=>
   erw[<-az (FZ (az (bK (p_mono hr (λ_ H b=>?_) λ_ _ a=>a)))),ay b];clear b;erw[(m l b),<-bc (wpAny_bind (wpAny_comp_letGo w _ H m j l λa B _ c=>wpAny_pure (b a c)))]
 |error x=>induction use using tT<;>exact hr.elim
theorem yb(h:Q true s):
  bN M A (forIn ([]:List dh) true λc r=>if r=true then do let ok<-isTrue c au (eval c au);pure (cw ok) else pure (cw r)) Q Ex s:=bh h
theorem ES(h:bN M A (isTrue c au (eval c au)) Q Ex s):
  bN M A (forIn [c] true λc r=>if r=true then do let ok<-isTrue c au (eval c au);pure (cw ok) else pure (cw r)) Q Ex s:=by
 simp only[Bs,List.forIn_nil,if_true];exact az (az (p_mono h (λb d a=>bh (bh a)) λ_ _ x=>x))
section
variable{R:Dx->Shared->Prop}
theorem EN(I:Nat->Shared->Prop)(t:∀n s,I n s->bN (model af w) A (pyNext it) (λr g=>match r with
   |none=>R (.ok .next) g
   |some v=>bN (model af w) A (assign (.Name x px) au v) (λ_ l=>
     bN (model af w) A (forIn ifs true λc r=>if r=true then do let o<-isTrue c au (eval c au);pure (cw o) else pure (cw r)) (λo i=>
      if o=true then bN (model af w) A (eval elt au) (λx j=>
       bN (model af w) A (call (.builtin "list.append") [cL,x]) (λ_ N=>∃m,m<n/\I m N) (λ_ _=>False) j) (λ_ _=>False) i
      else ∃m,m<n/\I m i) (λ_ _=>False) l) (λ_ _=>False) g) (λ_ _=>False) s)(n:Nat)(h:I n s):dU (model af w) A (.compLoop (.ListComp elt [⟨.Name x px,iter,ifs,0⟩] scope pos) 0 it cL au) R s:=by
 have b:∀{e:Value} {d:Shared},(λ_ _=>False) e d->kH (model af w) A au (λe d=>R (.error e) d) e d:=λh=>h.elim;refine Po rfl rfl I (λn s p=>?_) n h;show bN _ A ((compTurn (.ListComp elt [⟨.Name x px,iter,ifs,0⟩] scope pos) 0 it cL au).onRaise (λx=>do noteFrame x au;o6 x)) _ _ s;erw[tG];rw[compTurn_list];refine az (bz (az (p_mono (t n s p) (λr g k=>?_) λ_ _ a=>b a)))
 induction r using tT with
 |none=>exact bh k
 |some v=>
  erw[<-az (tV (show letOwnedTupleGo (.Name x px) it v=pure () from rfl) (bh ?_)),<-az (p_mono k (λ_ l q=>az (p_mono q (λo i f=>?_) λ_ _ a=>b a)) λ_ _ a=>b a)]
  induction o using tQ with
  |true=>
   simp only[if_true] at f⊢;exact az (az (p_mono f (λx j G=>az (p_mono G (λ_ N T=>bh (bh (.inl ⟨rfl,T⟩))) λ_ _ a=>b a)) λ_ _ a=>b a))
  |false=>
   simp only[jR,if_false] at f⊢;exact bh (.inl ⟨rfl,f⟩)
theorem Df(h:∀{Ex:Value->Shared->Prop} {Q:Value->Shared->Prop},Q it s->bP (model af w) A (pyIter it) Q Ex s)(h0:dU (model af w) A (.compLoop (.ListComp elt [⟨target,iter,ifs,0⟩] scope pos) 0 it cL au) R s):dU (model af w) A (.compStart (.ListComp elt [⟨target,iter,ifs,0⟩] scope pos) 0 it cL au) R s:=by
 erw[gJ rfl];show bN _ _ ((compStart (.ListComp elt [⟨target,iter,ifs,0⟩] scope pos) 0 it cL au).onRaise (λx=>do noteFrame x au;standAt theWindowsPlace)) _ _ s;erw[pg];unfold compStart;refine az (Yz ?_)
 split
 ·exact bh ⟨rfl,h0⟩
 ·erw[<-az (FZ ?_),<-az (bz (az (bc ?_))),<-h (bh ⟨rfl,h0⟩)]
end
section
variable{Q:Flow->Shared->Prop}
theorem nU(h:Q .next s):bN M A (execs [] au) Q Ex s:=bh h
theorem wx{st:jz}(h:bN M A (exec st au) (λf b=>match f with| .next=>bN M A (execs rest au) Q Ex b|f=>Q f b) Ex s):bN M A (execs (st::rest) au) Q Ex s:=by
 rw[execs_cons];refine az (p_mono h (λf b c=>?_) λ_ _ x=>x)
 induction f using Flow.casesOn with
 |next=>exact c
 |_=>exact bh c
theorem Ui(h:Q .next s):bN M A (exec (.Pass pos) au) Q Ex s:=az (bz (bh h))
theorem OX(h:Q .brk s):bN M A (exec (.Break pos) au) Q Ex s:=az (bz (bh h))
theorem Bh(h:Q (.ret .none) s):bN M A (exec (.Return none pos) au) Q Ex s:=by
 rw[exec_Return_none];exact az (bz (bh h))
theorem Kt(h:bN M A (eval e au) (λv b=>Q (.ret v) b) Ex s):bN M A (exec (.Return (some e) pos) au) Q Ex s:=by
 rw[exec_Return_some];exact az (bz (az (p_mono h (λv b c=>bh c) λ_ _ x=>x)))
theorem aaP(h:bN M A (isTrue test au (eval test au)) (λc b=>if c=true then bN M A (execs body au) Q Ex b else bN M A (execs orelse au) Q Ex b) Ex s):bN M A (exec (.If test body orelse pos) au) Q Ex s:=by
 rw[exec_If];refine az (bz (az (p_mono h (λc b a=>?_) λ_ _ x=>x)))
 induction c using tQ<;>exact a
theorem Bp(a:swapsWith value (some (.Name x px)) pos.line au=pure false)(h:bN M A (eval value au) (λv b=>bP M A (storeName au x v) (λ_ d=>Q .next d) Ex b) Ex s):bN M A (exec (.Assign [.Name x px] value pos) au) Q Ex s:=by
 erw[aj (exec_Assign_Name _ _ _ _ _ a),<-az (bz (az (p_mono h (λv b c=>bc ?_) λ_ _ x=>x)))];have:=wpAny_assign_Name (pos:=px) c;have e:=wpAny_bind (wpAny_mono this (λ_ _ q=>wpAny_pure q) λ_ _ q=>q);exact e
theorem Bn(a:swapsWith value (some (.Name x px)) pos.line au=pure true)(h:bN M A (evalThenUse value au (assign (.Name x px) au)) (λ_ b=>Q .next b) Ex s):bN M A (exec (.Assign [.Name x px] value pos) au) Q Ex s:=by
 erw[aj (exec_Assign_Name_used _ _ _ _ a),<-az (bz (az (p_mono h (λv b c=>bh c) λ_ _ x=>x)))]
end
section
variable{Q:Flow->Shared->Prop}
theorem RX(c:interactive au=false)(a:swapsWith e none pos.line au=pure false)(h:bN (model af w) A (eval e au) (λ_ b=>Q .next b) Ex s):bN (model af w) A (exec (.Expr e pos) au) Q Ex s:=by
 erw[aj (exec_Expr _ _ _ c a),<-az (bz (az (p_mono h (λv b d=>bc ?_) λ_ _ x=>x))),<-wpAny_dropValue d]
theorem u7(e:swapsWith value (some (.Attribute o f px)) pos.line au=pure false)(h:bN (model af w) A (eval value au) (λv b=>bN (model af w) A (eval o au) (λa c=>bN (model af w) A (setAttr a f v) (λ_ i=>Q .next i) Ex c) Ex b) Ex s):bN (model af w) A (exec (.Assign [.Attribute o f px] value pos) au) Q Ex s:=by
 rw[arm_exec_Assign];refine az (bz (az ?_));show bN (model af w) A (swapsWith value (some (.Attribute o f px)) pos.line au) _ Ex s;erw[aj e,bh,<-az (p_mono h (λv b j=>?_) λ_ _ x=>x),<-az (tV (show swappedStores [.Attribute o f px] value au=pure none from rfl) (bh ?_))];show bN (model af w) A (assign (.Attribute o f px) au v>>= λ_=>pure Flow.next) Q Ex b;rw[arm_assign_Attribute];refine az (az (bK (p_mono j (λa c g=>az (bz (az (bK (p_mono g (λ_ i d=>xS (bh d)) λ_ _ x=>x))))) λ_ _ x=>x)))
theorem vy(g:swapsWith value (some (.Subscript o i px)) pos.line au=pure false)(h:bN (model af w) A (eval value au) (λv e=>bN (model af w) A (eval o au) (λb d=>bN (model af w) A (eval i au) (λiv c=>bN (model af w) A (setItem b iv v) (λ_ a=>Q .next a) Ex c) Ex d) Ex e) Ex s):bN (model af w) A (exec (.Assign [.Subscript o i px] value pos) au) Q Ex s:=by
 erw[aj (exec_Assign_Subscript _ _ _ _ _ g),<-az (bz (az (p_mono h (λv e k=>?_) λ_ _ x=>x)))];rw[assign_Subscript];refine az (az (bK (p_mono k (λb d j=>az (bK (p_mono j (λiv c f=>az (bz (az (bK (p_mono f (λ_ a G=>xS (bh G)) λ_ _ x=>x))))) λ_ _ x=>x))) λ_ _ x=>x)))
theorem xR(h:bN (model af w) A (loadName au x) (λo b=>bN (model af w) A (eval value au) (λv c=>bN (model af w) A (inplaceOp op o v) (λn i=>bP (model af w) A (storeName au x n) (λ_ a=>Q .next a) Ex i) Ex c) Ex b) Ex s):
  bN (model af w) A (exec (.AugAssign (.Name x px) op value pos) au) Q Ex s:=by
 rw[exec_AugAssign_Name];refine az (bz (az (p_mono h (λo b g=>az (bK (p_mono g (λv c f=>az (bz (az (pC (p_mono f (λn i d=>bc ?_) λ_ _ x=>x))))) λ_ _ x=>x))) λ_ _ x=>x)));have:=wpAny_assign_Name (pos:=px) d;have e:=wpAny_bind (wpAny_mono this (λ_ _ q=>wpAny_pure q) λ_ _ q=>q);exact e
theorem q8(h:bN (model af w) A (eval o au) (λb e=>bN (model af w) A (getAttr b f true) (λa d=>bN (model af w) A (eval value au) (λv i=>bN (model af w) A (inplaceOp op a v) (λn c=>bN (model af w) A (setAttr b f n) (λ_ N=>Q .next N) Ex c) Ex i) Ex d) Ex e) Ex s):
  bN (model af w) A (exec (.AugAssign (.Attribute o f px) op value pos) au) Q Ex s:=by
 rw[arm_exec_AugAssign_2];erw[<-az (bz (az (p_mono h (λb e k=>?_) λ_ _ x=>x))),<-az (bK (az (bz (az (p_mono k (λa d j=>?_) λ_ _ x=>x))))),<-az (bK (p_mono j (λv i g=>?_) λ_ _ x=>x)),<-az (bz (pC (p_mono g (λn c G=>?_) λ_ _ x=>x))),<-az (bz (az (bK (p_mono G (λ_ N T=>?_) λ_ _ x=>x)))),<-az (xS (bh T))]
theorem OW(h:dU (model af w) A (.whileLoop test body orelse au) (λr s'=>match r with| .ok f=>Q f s'| .error e=>oi (model af w) A au Ex e s') s):
  bN (model af w) A (exec (.While test body orelse pos) au) Q Ex s:=by
 rw[exec_While];exact az (bz (wK h))
theorem NA(a:∀x,gw iter au x=pure x)(h:bN (model af w) A (eval iter au) (λx b=>bP (model af w) A (pyIter x) (λi c=>dU (model af w) A (.forLoop target i body orelse au) (λr s'=>match r with| .ok f=>Q f s'| .error e=>oi (model af w) A au Ex e s') c) Ex b) Ex s):
  bN (model af w) A (exec (.For target iter body orelse pos) au) Q Ex s:=by
 rw[arm_exec_For];erw[<-az (bz (az (p_mono h (λx b g=>?_) λ_ _ x=>x))),<-az (tV (a x) (bh (az (bz (az (bK (p_mono (bc g) (λi c d=>wK d) λ_ _ x=>x)))))))]
theorem My(h:bN (model af w) A (isTrue test au (eval test au)) (λc g=>if c=true then bN (model af w) A (execs body au) (λf d=>match f with
   | .next| .cont=>dU (model af w) A (.whileLoop test body [] au) R d
   | .brk=>R (.ok .next) d
   | .ret v=>R (.ok (.ret v)) d) (kH (model af w) A au λe s'=>R (.error e) s') g else R (.ok .next) g) (kH (model af w) A au λe s'=>R (.error e) s') s):
  dU (model af w) A (.whileLoop test body [] au) R s:=by
 erw[gJ rfl];show bN _ A ((whileTurn test body [] au).onRaise (λx=>do noteFrame x au;o6 x)) _ _ s;erw[tG];unfold whileTurn;refine az (p_mono h (λc g b=>?_) λ_ _ x=>x)
 induction c using tQ with
 |false=>
  simp only[jR,if_false] at b⊢;exact az (nU (bh b))
 |true=>
  simp only[if_true] at b⊢;refine az (p_mono b (λf d a=>?_) λ_ _ x=>x)
  induction f using Flow.casesOn with
  |next=>exact bh ⟨rfl,a⟩
  |cont=>exact bh ⟨rfl,a⟩
  |brk=>exact bh a
  |ret v=>exact bh a
theorem CN(h:R (.ok .next) s):dU (model af w) A (.block [] au) R s:=by
 erw[gJ rfl];show bN _ A ((execs [] au).onRaise (λx=>do noteFrame x au;o6 x) >>= λf=>pure (Fin.done f)) _ _ s;exact az (tG (nU (bh h)))
theorem K6(h:bP (model af w) A (pyNext it) (λr b=>match r with
   |none=>R (.ok .next) b
   |some v=>bP (model af w) A (storeName au x v) (λ_ a=>bN (model af w) A (execs body au) (λf i=>match f with
    | .next| .cont=>dU (model af w) A (.forLoop (.Name x px) it body [] au) R i
    | .brk=>R (.ok .next) i
    | .ret v=>R (.ok (.ret v)) i) (kH (model af w) A au λe s'=>R (.error e) s') a) (kH (model af w) A au λe s'=>R (.error e) s') b) (λ_ _=>False) s):
  dU (model af w) A (.forLoop (.Name x px) it body [] au) R s:=by
 erw[gJ rfl];show bN _ A ((forTurn (.Name x px) it body [] au).onRaise (λx=>do noteFrame x au;o6 x)) _ _ s;erw[tG];unfold forTurn;refine az (bz (az (pg (p_mono (bc h) (λr b c=>?_) λ_ _ x=>x.elim))))
 induction r using tT with
 |none=>exact bh ⟨rfl,CN c⟩
 |some v=>
  erw[<-az (tV (show letOwnedTupleGo (.Name x px) it v=pure () from rfl) (bh ?_)),<-az (p_mono (bc (wpAny_assign_Name c)) (λ_ a d=>?_) λ_ _ x=>x),<-az (p_mono d (λf i o=>?_) λ_ _ x=>x)]
  induction f using Flow.casesOn with
  |next=>exact bh ⟨rfl,o⟩
  |cont=>exact bh ⟨rfl,o⟩
  |brk=>exact bh o
  |ret v=>exact bh o
end
variable{dY:Heap}
variable{l:List mq}
noncomputable def z_:Addr:=128
def JH(cls:Value)(vs:Array Value):Prop:=∃cx,vs[2]?=some cx/\(cls≠.ref z_->cx=.none)
theorem JH.aaL(x:JH cls vs)(v:Value):JH cls (vs.setIfInBounds 1 v):=by
 erw[ay x,(c h q),<-⟨c,by erw[aj (Array.getElem?_setIfInBounds_ne (dc rfl)),<-h],q⟩]
def aau(h dY:Heap)(e:Addr)(cls fl:Value):Prop:=
 ∃oe vs T oT ts,h.get? e=some oe/\oe.cls=cls/\oe.data=.fields vs/\vs[1]?=some (.ref T)/\JH cls vs/\dY.get? T=none/\T≠e/\h.get? T=some oT/\oT.data=.fields ts/\ts[3]?=some fl
structure Way(dY:Heap)(l:List mq)(e:Addr)(cls fl:Value)(h:Heap):Prop where
 stays:dY.StaysIn h
 new:dY.get? e=none
 Pf:h.FunFrames dY l
 tr:aau h dY e cls fl
theorem Way.there(x:Way dY l e cls fl h):∃o,h.get? e=some o/\o.cls=cls:=by
 erw[iN x.tr,(a _ _ _ _ b c _),<-⟨a,b,c⟩]
theorem Way.down(k:dY.StaysIn B)(x:Way B l e cls fl h):Way dY l e cls fl h:=by
 rcases x with⟨a,b,c,oe,vs,T,oT,ts,a1,a2,a3,a4,a5,a6,a7⟩
 exact⟨λb o q=>a b o (k b o q),yU k b,funFrames_base k c,oe,vs,T,oT,ts,a1,a2,a3,a4,a5,yU k a6,a7⟩
section
variable{outer:List mq}{L e:Addr}{cls fl:Value}
theorem kW(f:Option Addr)(W:Way dY l e cls fl s.heap)(q:∀d,Way dY l e cls (f.elim .none λa=>rawInt a) d->s.heap.UpToSlots d->Q () {s with heap:=d}):bP M A (setFlight (.ref e) f) Q Ex s:=by
 rcases W with⟨f1,f2,f3,oe,v,T,oT,ts,he,hc,hd,h1,h2,Wx,Qv,hT,N8,h3⟩
 have i:=(oq.mp h3).1;have c:∀g b,b≠T->(s.heap.update T g).get? b=s.heap.get? b:=λg b h=>hU _ _ (aJ h);have plain:∀b o,s.heap.get? b=some o->(∀v,o.data≠.fields v)->b≠T:=λb o h y q=>by
  replace q:=q.symm;subst q;rw[hT] at h;injection h with h;subst h;exact y ts N8
 unfold setFlight;erw[<-wpAny_bind (wpAny_field he hd h1 ?_),aj (if_pos (show(iq T !=lg)=true from by simp))];refine wpAny_setField hT N8 i (q _ ⟨λb o h=>(c _ b λq=>by replace q:=q.symm;subst q;rw[Wx] at h;injection h).trans (f1 b o h),f2,f3.of_keeps λb o h y=>⟨o,(c _ b (plain b o h y)).trans h,rfl⟩,?_⟩
  λb o h y=>⟨o.slots,(c _ b (plain b o h y)).trans h⟩)
 exact⟨oe,v,T,_,_,(c _ e (aJ Qv)).trans he,hc,hd,h1,h2,Wx,Qv,e_ _ hT (JJ (yV N8 _)),yV N8 _,by simp[i]⟩
theorem Hn(N:A.frames=some (au::outer))(hl:s.heap.FunFrames dY (au::outer))(F:au.frame=some L)(r:s.heap.get? e=some oe)(G:oe.cls=cls)(m:dY.StaysIn s.heap)(f:dY.get? e=none)(j:oe.data=.fields vs)(h2:JH cls vs)(q:∀u,Way dY (au::outer) e cls (rawInt L) u->s.heap.UpToSlots u->Q () {s with heap:=u}):
  bP M A (do let a<-frameOf au;let p<-entryPlaceOf L Y9;let b<-Dy head a .none (rawInt L) .none p;setField (.ref e) 1 b) Q Ex s:=by
 have C:=let⟨_,h,_⟩:=h2;(oq.mp h).1;have D:e∉(au::outer).filterMap (·.frame):=λl=>by
  erw[aD (hl.mem l),(_ I),ay I,(o i y)];rw[r] at i;injection i with i;subst i;exact y vs j
 refine wpAny_bind (wpAny_frameOf_fun N hl F λd H=>wpAny_bind (wpAny_entryPlaceOf λp E=>?_));unfold Dy newFields;refine wpAny_bind (wpAny_newObj_type ?_ (E.sizeOk5 _ _ _ _ _));have z:=(H.2.1 e D).trans r;generalize v:({cls:=.type "traceback",dict:=none,data:=.fields ([head,.ref L,.none,rawInt L,.none]++(if p.isEmpty then kK 6 lg else p)).toArray}:Obj)=O;have t:O.data=.fields ([head,.ref L,.none,rawInt L,.none]++(if p.isEmpty then kK 6 lg else p)).toArray:=by refine' c_ v ?_;rfl
 have n:O.isFreed=false:=by refine' c_ v ?_;rfl
 have B:=bB O z;have w:=Nat.ne_of_gt (eO z);have P:=yV j (·.setIfInBounds 1 (iq d.objs.size));have k:∀b o,b≠e->d.get? b=some o->((d.push O).update e (qW (·.setIfInBounds 1 (iq d.objs.size)))).get? b=some o:=λb o c g=>(hU _ _ (aJ c)).trans (bB O g);have plain:∀b o,s.heap.get? b=some o->(∀vs,o.data≠.fields vs)->b≠e:=λb o c y q=>by
  replace q:=q.symm;subst q;rw[r] at c;injection c with c;subst c;exact y vs j
 have x:dY.StaysIn d:=λb o c=>(H.2.1 b λl=>by rw[(hl.mem l).1] at c;injection c).trans (m b o c);refine wpAny_setField B j (zo1 C) (q _ ⟨λb o c=>k b o (λq=>by replace q:=q.symm;subst q;rw[f] at c;injection c) (x b o c),f,hl.of_keeps λb o c y=>?_,?_⟩ λb o c y=>?_)
 ·erw[bf (H.2.2 b o c),(sl g),<-⟨_,k b _ (plain b o c y) g,rfl⟩]
 ·refine⟨_,_,d.objs.size,O,_,e_ _ B (JJ P),(Obj.cls_mapFields _ _).trans G,P,?_,?_,x.fresh,w,(hU _ _ (aJ w)).trans (dv d n),t,?_⟩
  ·have h1:1<vs.size:=by exact zo1 C
   simp[h1]
  ·exact h2.aaL _
  ·first|(simp;done)|(rcases E with rfl|⟨_,_,_,_,_,_,_,rfl⟩<;>simp)
 ·erw[bf (H.2.2 b o c),(sl g),<-⟨sl,k b _ (plain b o c y) g⟩]
structure rS(dY:Heap)(l:List mq)(e:Addr)(cls:Value)(h:Heap):Prop where
 stays:dY.StaysIn h
 new:dY.get? e=none
 Pf:h.FunFrames dY l
 obj:∃oe vs,h.get? e=some oe/\oe.cls=cls/\oe.data=.fields vs/\vs[1]?=some .none/\JH cls vs
theorem rS.of(x:Heap.MadeExcOf h₀ h e cls args)(k:dY.StaysIn h₀)(f:h₀.FunFrames dY l):rS dY l e cls h:=by
 erw[cX x.there,(t c a g),<-⟨λb o q=>x.keeps b o (k b o q),yU k x.new,f.of_keeps λb o d _=>⟨o,x.keeps b o d,rfl⟩,_,_,c,rfl,rfl,rfl,.none,rfl,λ_=>rfl⟩]
theorem rS.down(k:dY.StaysIn B)(x:rS B l e cls h):rS dY l e cls h:=
 ⟨λb o q=>x.stays b o (k b o q),yU k x.new,funFrames_base k x.Pf,x.obj⟩
theorem BZ(N:A.frames=some (au::outer))(a:au.frame=some L)(W:rS dY (au::outer) e cls s.heap)(q:∀h,Way dY (au::outer) e cls (rawInt L) h->s.heap.UpToSlots h->Q () {s with heap:=h}):bP M A (noteFrame (.ref e) au) Q Ex s:=by
 rcases W with⟨k,n,f,oe,vs,he,hc,hd,h1,h2⟩
 unfold noteFrame;simp only[a];erw[<-wpAny_bind (wpAny_field he hd h1 ?_),aj (if_neg (dc rfl)),<-Hn N f a he hc k n hd h2 q]
theorem vT(N:A.frames=some (au::outer))(d:au.frame=some L)(W:Way dY (au::outer) e cls .none s.heap)(q:∀c,Way dY (au::outer) e cls (rawInt L) c->s.heap.UpToSlots c->Q () {s with heap:=c}):bP M A (noteFrame (.ref e) au) Q Ex s:=by
 rcases W with⟨f1,f2,f3,oe,v,T,oT,ts,he,hc,hd,h1,h2,Wx,Qv,hT,N8,h3⟩
 unfold noteFrame;simp only[d];erw[<-wpAny_bind (wpAny_field he hd h1 ?_),aj (if_pos (show(iq T !=lg)=true from by simp)),<-wpAny_bind (wpAny_field hT N8 h3 ?_),aj (if_neg (show ¬((lg==rawInt L)=true) from by simp[rawInt]))];have a:∀g b,b≠T->(s.heap.update T g).get? b=s.heap.get? b:=λg b h=>hU _ _ (aJ h);have plain:∀b o,s.heap.get? b=some o->(∀v,o.data≠.fields v)->b≠T:=λb o h y q=>by
  replace q:=q.symm;subst q;rw[hT] at h;injection h with h;subst h;exact y ts N8
 refine wpAny_bind (wpAny_setField hT N8 (oq.mp h3).1 ?_);refine Hn N (f3.of_keeps λb o h y=>⟨o,(a _ b (plain b o h y)).trans h,rfl⟩) d ((a _ e (aJ Qv)).trans he) hc (λb o h=>(a _ b λq=>by replace q:=q.symm;subst q;rw[Wx] at h;injection h).trans (f1 b o h)) f2 hd h2
  λc f k=>q c f λb o h y=>k b o ((a _ b (plain b o h y)).trans h) y
theorem tA(h:au.frame=some L)(W:Way dY l e cls (rawInt L) s.heap)(q:Q () s):bP M A (noteFrame (.ref e) au) Q Ex s:=by
 rcases W with⟨f1,f2,f3,oe,vs,T,oT,ts,he,hc,hd,h1,h2,Wx,Qv,hT,N8,h3⟩
 unfold noteFrame;simp only[h];erw[<-wpAny_bind (wpAny_field he hd h1 ?_),aj (if_pos (show(iq T !=lg)=true from by simp)),<-wpAny_bind (wpAny_field hT N8 h3 ?_),aj (if_pos (show(rawInt L==rawInt L)=true from by simp)),<-wpAny_pure q]
theorem Way.past(W:Way dY (au::outer) e cls fl h):Way dY outer e cls fl h:=⟨W.stays,W.new,W.Pf.2.2,W.tr⟩
theorem FK(N:A.frames=some (au::outer))(b:au.frame=some L)(W:rS dY (au::outer) e cls s.heap)(q:∀h,Way dY outer e cls .none h->s.heap.UpToSlots h->Q () {s with heap:=h}):bP M A (leaving au (.ref e)) Q Ex s:=by
 unfold leaving;exact wpAny_bind (BZ N b W λh1 d a=>kW none d λh2 c k=>q h2 c.past (a.trans k))
theorem IS(N:A.frames=some (au::outer))(b:au.frame=some L)(W:Way dY (au::outer) e cls .none s.heap)(q:∀h,Way dY outer e cls .none h->s.heap.UpToSlots h->Q () {s with heap:=h}):bP M A (leaving au (.ref e)) Q Ex s:=by
 unfold leaving;exact wpAny_bind (vT N b W λh1 d a=>kW none d λh2 c k=>q h2 c.past (a.trans k))
theorem Ge(a:au.frame=some L)(W:Way dY (au::outer) e cls (rawInt L) s.heap)(q:∀h,Way dY outer e cls .none h->s.heap.UpToSlots h->Q () {s with heap:=h}):bP M A (leaving au (.ref e)) Q Ex s:=by
 unfold leaving;exact wpAny_bind (tA a W (kW none W λh2 b k=>q h2 b.past k))
theorem Ri(W:Way dY l e cls fl s.heap)(h:bP M A t Q Ex s):bP M A (do
  if(<-field (.ref e) 1) == .none then yT "frame.own-activation:exception-without-traceback"
  t) Q Ex s:=by
 rcases W with⟨f1,f2,f3,oe,vs,T,oT,ts,he,hc,hd,h1,_⟩
 erw[<-wpAny_bind (wpAny_field he hd h1 ?_),aj (if_neg (show ¬((iq T==lg)=true) from hW)),<-h]
end
inductive V where
 |none
 |bool (b:Bool)
 |int (i:Int)
 |bytes (b:List UInt8)
 |text
 |tup (vs:List V)
 |ref (a:Addr)
inductive MO where
 |list (vs:List V)
 |inst (C:Addr) (fs:List (Nat×V))
 |cZ (b:List UInt8)
abbrev Hp:=Addr->Option MO
abbrev Loc:=Nat->Option V
noncomputable def upd{α:Type}(f:Nat->Option α)(a:Nat)(x:α):Nat->Option α:=λb=>if b=a then some x else f b
theorem us:upd f a x a=some x:=if_pos rfl
theorem cY(f:Nat->Option α)(a:Nat)(x:α):upd f a x a=some x:=if_pos rfl
theorem dp(f:Nat->Option α)(x:α)(h:b≠a):upd f a x b=f b:=if_neg h
mutual
inductive c9(h:Heap):Value->V->Prop
 |none:c9 h .none .none
 |bool (b:Bool):c9 h (.bool b) (.bool b)
 |int (i:Int) (t:Tok):c9 h (.int i t) (.int i)
 |bytes (b:Array UInt8) (t:Tok):c9 h (.bytes b t) (.bytes b.toList)
 |text (s:Str) (t:Tok):s.length<=10000->c9 h (.str s t) .text
 |tup {a:Addr} {aQ:List Value} {vs:List V}:qX h a aQ.toArray->bU h aQ vs->c9 h (.ref a) (.tup vs)
 |ref (a:Addr):c9 h (.ref a) (.ref a)
inductive bU(h:Heap):List Value->List V->Prop
 |nil:bU h [] []
 |cons {v:Value} {x:V} {aQ:List Value} {vs:List V}:c9 h v x->bU h aQ vs->bU h (v::aQ) (x::vs)
end
def VR(h:Heap)(v:Value):V->Prop
 | .none=>v=.none
 | .bool b=>v=.bool b
 | .int i=>∃t,v=.int i t
 | .bytes l=>∃b t,v=.bytes b t/\b.toList=l
 | .text=>∃s t,v=.str s t/\s.length<=10000
 | .tup vs=>∃a aQ,v=.ref a/\qX h a aQ.toArray/\bU h aQ vs
 | .ref a=>v=.ref a
theorem c9.inv(r:c9 h v x):VR h v x:=by
 cases r with
 |none=>exact rfl
 |bool b=>exact rfl
 |int i t=>exact⟨t,rfl⟩
 |bytes b t=>exact⟨b,t,rfl,rfl⟩
 |text s t l=>exact⟨s,t,rfl,l⟩
 |tup a r=>exact⟨_,_,rfl,a,r⟩
 |ref a=>exact rfl
theorem bU.inv(r:bU h aQ (x::xs)):∃v vs,aQ=v::vs/\c9 h v x/\bU h vs xs:=by
 cases r with
 |cons a b=>exact⟨_,_,rfl,a,b⟩
theorem bU.Pb(r:bU h aQ []):aQ=[]:=by
 cases r;rfl
def dM(h h':Heap):Prop:=∀a items,qX h a items->qX h' a items
theorem bU.ind{M:List Value->List V->Prop}(n:M [] [])(c:∀v x d vs,c9 h v x->bU h d vs->M d vs->M (v::d) (x::vs))(r:bU h d vs):M d vs:=
 bU.rec (motive_1:=λ_ _ _=>True) trivial (λ_=>trivial) (λ_ _=>trivial) (λ_ _=>trivial) (λ_ _ _=>trivial) (λ_ _ _=>trivial) (λ_=>trivial) n (λa b _ i=>c _ _ _ _ a b i) r
theorem c9.mono(k:dM h h')(r:c9 h v x):c9 h' v x:=
 c9.rec .none .bool .int .bytes .text (λa _ i=>.tup (k _ _ a) i) .ref .nil (λ_ _ a b=>.cons a b) r
theorem bU.mono(k:dM h h')(r:bU h v x):bU h' v x:=r.ind .nil λ_ _ _ _ a _ i=>.cons (a.mono k) i
theorem bU.length(r:bU h a vs):a.length=vs.length:=r.ind (M:=λa vs=>a.length=vs.length) rfl λ_ _ _ _ _ _ i=>congrArg (· +1) i
theorem bU.append(q:bU h a x)(r:bU h b y):bU h (a++b) (x++y):=q.ind (M:=λa x=>bU h (a++b) (x++y)) r λ_ _ _ _ v _ i=>.cons v i
theorem bU.get{i:Nat}(r:bU h a vs):vs[i]?=some x->∃v,a[i]?=some v/\c9 h v x:=
 r.ind (M:=λa vs=>∀i,vs[i]?=some x->∃v,a[i]?=some v/\c9 h v x) (λi e=>absurd (List.getElem?_nil.symm.trans e) (λq=>nomatch q)) (λv _ _ _ q _ b i=>i.casesOn (λe=>⟨v,rfl,bV e▸q⟩) λi e=>b i e) i
theorem bU.take(n:Nat)(r:bU h a vs):bU h (a.take n) (vs.take n):=
 r.ind (M:=λa vs=>∀n,bU h (a.take n) (vs.take n)) (λn=>n.casesOn .nil λ_=>.nil) (λ_ _ _ _ q _ i n=>n.casesOn .nil λn=>.cons q (i n)) n
theorem bU.drop(n:Nat)(r:bU h a vs):bU h (a.drop n) (vs.drop n):=
 r.ind (M:=λa vs=>∀n,bU h (a.drop n) (vs.drop n)) (λn=>n.casesOn .nil λ_=>.nil) (λ_ _ _ _ q b i n=>n.casesOn (.cons q b) λn=>i n) n
theorem bU.set(n:Nat)(r:bU h c vs)(q:c9 h v x):bU h (c.set n v) (vs.set n x):=
 r.ind (M:=λc vs=>∀n,bU h (c.set n v) (vs.set n x)) (λ_=>.nil) (λ_ _ _ _ a b i n=>n.casesOn (.cons q b) λn=>.cons a (i n)) n
theorem bU.eraseIdx(n:Nat)(r:bU h c vs):bU h (c.eraseIdx n) (vs.eraseIdx n):=
 r.ind (M:=λc vs=>∀n,bU h (c.eraseIdx n) (vs.eraseIdx n)) (λ_=>.nil) (λ_ _ _ _ a b i n=>n.casesOn b λn=>.cons a (i n)) n
noncomputable def AT:List String:=["term","index","kind","data","parts","at","voters","learners","outgoing","learners_next","auto_leave","conf","to","frm","log_term","entries","commit","snapshot","reject","reject_hint","context","client","number","key","value","expect","offset"]
def atName(k:Nat):Str:=eK (AT.getD k "")
noncomputable def Aw(fs:List (Nat×V))(k:Nat):Option V:=fs.lookup k
noncomputable def xB:List (Nat×V)->Nat->V->List (Nat×V)
 |[],k,v=>[(k,v)]
 |(j,u)::r,k,v=>if k==j then(j,v)::r else(j,u)::xB r k v
def nT(h:Heap)(d:Addr)(fs:List (Nat×V)):Prop:=
 ∃o es n,h.get? d=some o/\o.cls=.type "dict" /\o.data=.dict es n/\StrKeys es/\es.size=fs.length/\
  (∀k,k<27->match Aw fs k with|some x=>∃v,nsFind es (atName k)=some v/\c9 h v x|none=>nsFind es (atName k)=none)/\
  ∀x,(∀k,k<27->x≠atName k)->nsFind es x=none
noncomputable def sG(h:Heap)(x:Addr):Option Addr:=(h.get? x).bind Obj.dict
def t_(G:Addr->Bool)(h:Heap)(a:Addr):MO->Prop
 | .list vs=>∃aQ,(h.IsList a aQ.toArray/\sG h a=none)/\bU h aQ vs
 | .inst C fs=>G C=true/\∃o d,h.get? a=some o/\o.cls=.ref C/\o.data=.plain/\o.dict=some d/\nT h d fs
 | .cZ b=>∃o b',h.get? a=some o/\o.cls=.type "bytearray" /\(o.data=.bytearray b' 0/\o.dict=none)/\b'.toList=b
noncomputable def eu:Option MO->Bool
 |some (.inst _ _)=>true
 |_=>false
def FP(H:Hp)(h:Heap)(a:Addr):Prop:=H a≠none\/∃x,eu (H x)=true/\sG h x=some a
structure ki(G:Addr->Bool)(H:Hp)(h:Heap):Prop where
 obj:∀a mo,H a=some mo->t_ G h a mo
 inj:∀x y d,eu (H x)=true->eu (H y)=true->sG h x=some d->sG h y=some d->x=y
 off:∀x d,eu (H x)=true->sG h x=some d->H d=none
def jt(S:Addr->Prop)(h h':Heap):Prop:=∀b o,¬S b->h.get? b=some o->(∀vs,o.data≠.fields vs)->∃sl,h'.get? b=some {o with slots:=sl}
theorem jt.of_keeps(k:∀b o,h.get? b=some o->h'.get? b=some o):jt S h h':=λb o _ e _=>⟨o.slots,k b o e⟩
theorem jt.kf(k:d_ a h h'):jt (· =a) h h':=λb o n e _=>⟨o.slots,(k.2 b n).trans e⟩
theorem jt.J4(k:h.UpToSlots h'):jt S h h':=λb o _ e q=>k b o e q
theorem jt.mono(k:jt S h h')(i:∀b,S b->T b):jt T h h':=λb o n e q=>k b o (λs=>n (i b s)) e q
theorem jt.tup(k:jt S h h')(c:∀a i,qX h a i->¬S a):dM h h':=by
 intro a i t;have n:=c _ _ t;erw[cX t,(o d f g),bf g,(m b),bf (k a o n d (λv q=>by rw[b] at q;injection q)),(sl e),<-⟨_,e,f,m,b⟩]
theorem t_.pf(x:t_ G h a mo):∃o,h.get? a=some o/\(∀vs,o.data≠.fields vs)/\o.cls≠.type "tuple":=by
 induction mo using MO.casesOn with
 |list vs=>
  erw[ay x,(m i _),aD i,(k _),cX k,(o c f p),bf p,(n e),<-⟨o,c,(λvs q=>by rw[e] at q;injection q),by erw[aj f];decide⟩]
 |inst C j=>
  erw[aD x,(_ t),fX t,(o d c f e _),<-⟨o,c,(λvs q=>by rw[e] at q;injection q),by erw[aj f];exact λq=>by injection q⟩]
 |cZ b=>
  erw[fX x,(o l c f g _),aD g,(e _),<-⟨o,c,(λvs q=>by rw[e] at q;injection q),by erw[aj f];decide⟩]
theorem ki.own(R:ki G H h)(f:FP H h a):∃o,h.get? a=some o/\(∀vs,o.data≠.fields vs)/\o.cls≠.type "tuple":=by
 rcases f with f|⟨x,b,g⟩
 ·cases e:H a with
  |none=>exact absurd e f
  |some m=>exact(R.obj a m e).pf
 ·cases e:H x with
  |none=>rw[e] at b;injection b
  |some m=>
   induction m using MO.casesOn with
   |inst C s=>
    erw[aD (R.obj x _ e),(_ l),iC l,(o d k r p Q E),mR E,(j t n v i c _)];have:d=a:=by unfold sG at g;rw[k,Option.bind_some,Q] at g;exact bV g
    subst this;exact⟨j,v,(λvs q=>by rw[c] at q;injection q),by erw[aj i];decide⟩
   |list _=>rw[e] at b;injection b
   |cZ _=>rw[e] at b;injection b
theorem ki.zG(R:ki G H h)(f:FP H h a):¬qX h a items:=by
 rintro ⟨o,ho,hc,_⟩
 erw[cX (R.own f),(c v _ b)];rw[ho] at v;injection v with v;subst v;exact b hc
theorem jt.list(k:jt S h h')(n:¬S a)(x:h.IsList a items):h'.IsList a items:=by
 erw[cX x,(o c d D),bf D,(m b),bf (k a o n c (λv q=>by rw[b] at q;injection q)),(sl e),<-⟨_,e,d,m,b⟩]
theorem jt.dict(k:jt S h h')(t:dM h h')(n:¬S d)(x:nT h d fs):nT h' d fs:=by
 erw[u0 x,(o r m j p f c g l i),bf (k d o n j (λs q=>by rw[f] at q;injection q)),(sl e),<-⟨_,r,m,e,p,f,c,g,λk c=>?_,i⟩];have:=l k c
 split at this
 ·erw[ay this,(v a b),<-⟨v,a,b.mono t⟩]
 ·exact this
theorem jt.CM(k:jt S h h')(t:dM h h')(n:¬S a)(r:∀d,sG h a=some d->eu (some mo)=true->¬S d)(x:t_ G h a mo):t_ G h' a mo:=by
 induction mo using MO.casesOn with
 |list v=>
  erw[ay x,(y p s),aD p,(hl l),cX (id hl),(o c i z),bf z,(m f),bf (k a o n c (λv q=>by rw[f] at q;injection q)),(sl e),<-⟨y,⟨k.list n hl,by unfold sG at*;rw[c] at l;erw[aj e,<-l]⟩,s.mono t⟩]
 |inst C B=>
  erw[aD x,(g A),iC A,(o d c i j Q D),bf (k a o n c (λv q=>by rw[j] at q;injection q)),(sl e),<-⟨g,_,d,e,i,j,Q,k.dict t (r d (by unfold sG;erw[aj c,<-Q]) rfl) D⟩]
 |cZ b=>
  erw[fX x,(o w c i f u),bf (k a o n c (λv q=>by rw[f.1] at q;injection q)),(sl e),<-⟨_,w,e,i,f,u⟩]
theorem ki.pH(R:ki G H h)(k:jt S h h')(b:H x≠none)(n:¬S x):sG h' x=sG h x:=by
 erw[cX (R.own (.inl b)),(o a y _),bf (k x o n a y),(sl e)];unfold sG;erw[aj a,aj e];rfl
theorem eT(h:eu x=true):x≠none:=by rintro rfl;injection h
theorem ki.keep(R:ki G H h)(k:jt S h h')(c:∀a,FP H h a->¬S a)(l:∀a i,qX h a i->¬S a):ki G H h':=by
 have t:=k.tup l;refine⟨λa m e=>?_,λx y d b g f j=>?_,λx d b f=>?_⟩
 ·refine k.CM t (c a (.inl (by erw[aj e];simp))) (λd o n=>c d (.inr ⟨a,by erw[aj e,<-n],o⟩)) (R.obj a m e)
 ·rw[R.pH k (eT b) (c x (.inl (eT b)))] at f;rw[R.pH k (eT g) (c y (.inl (eT g)))] at j;exact R.inj x y d b g f j
 ·rw[R.pH k (eT b) (c x (.inl (eT b)))] at f;exact R.off x d b f
theorem ki.pV(R:ki G H h)(k:jt S h h')(b:∀a,FP H h a->¬S a)(a:Addr):FP H h' a ↔ FP H h a:=by
 constructor
 ·rintro (f|⟨x,hx,hd⟩)
  ·exact .inl f
  ·exact .inr ⟨x,hx,by rwa [R.pH k (eT hx) (b x (.inl (eT hx)))] at hd⟩
 ·rintro (f|⟨x,hx,hd⟩)
  ·exact .inl f
  ·exact .inr ⟨x,hx,by erw[aj (R.pH k (eT hx) (b x (.inl (eT hx))))];assumption⟩
theorem ki.less(R:ki G H h)(l:∀a mo,H' a=some mo->H a=some mo):ki G H' h:=by
 have c:∀x,eu (H' x)=true->eu (H x)=true:=λx b=>by
  cases e:H' x with
  |none=>rw[e] at b;injection b
  |some mo=>refine' aj (l _ _ e) ?_;rw[e] at b;exact b
 refine⟨λa mo e=>R.obj a mo (l _ _ e),λx y d b f=>R.inj x y d (c x b) (c y f),λx d b g=>?_⟩;have:=R.off x d (c x b) g;cases e:H' d with
 |none=>rfl
 |some mo=>rw[l _ _ e] at this;injection this
theorem FP.less(l:∀a mo,H' a=some mo->H a=some mo)(f:FP H' h a):FP H h a:=by
 rcases f with f|⟨x,b,c⟩
 ·cases e:H' a with
  |none=>exact absurd e f
  |some mo=>exact .inl (by erw[aj (l _ _ e)];simp)
 ·refine .inr ⟨x,?_,c⟩;cases e:H' x with
  |none=>rw[e] at b;injection b
  |some mo=>refine' aj (l _ _ e) ?_;rw[e] at b;exact b
variable{K:fg}
variable{B:Heap}
variable{ak:List (Addr×Obj)}
variable{os:bL}
variable{H:Hp}
variable{ρ:Loc}
noncomputable def qO(S:Addr->Prop)(h:Heap):Heap:=open Classical in⟨h.objs.mapIdx λi o=>if S i then {o with data:=.freed} else o,h.life⟩
theorem jr(S:Addr->Prop)(h:Heap)(a:Addr)(o:Obj):(qO S h).get? a=some o ↔ ¬S a/\h.get? a=some o:=by
 rw[x8,x8];unfold qO;simp only[Array.getElem?_mapIdx]
 constructor
 ·rintro ⟨e,f⟩
  erw[ay (q_.mp e),(b e1 e2)]
  split at e2
  ·subst e2;simp[Obj.isFreed] at f
  ·rename_i hn;subst e2;exact⟨hn,e1,f⟩
 ·rintro ⟨n,e,f⟩
  exact⟨by erw[aj e];simp[n],f⟩
theorem mX(x:S a):(qO S h).get? a=none:=by
 cases e:(qO S h).get? a with
 |none=>rfl
 |some o=>exact absurd x ((jr S h a o).mp e).1
theorem nR(S:Addr->Prop)(h:Heap):(qO S h).StaysIn h:=λb o e=>((jr S h b o).mp e).2
theorem dF{b:Heap}(k:B.StaysIn b)(e:b.get? a=none):B.get? a=none:=by
 cases q:B.get? a with
 |none=>rfl
 |some o=>rw[k a o q] at e;injection e
structure xE(K:fg)(B:Heap):Prop where
 Br:K.In B
 top:∃p loose mg mb,TopRead p loose mg mb B
theorem xE.keeps{B:Heap}{K:fg}(x:xE K B)(k:B.StaysIn B'):xE K B':=
 ⟨x.Br.keeps k,by erw[vz x.top,(p l m a t),<-⟨p,l,m,a,t.keeps k⟩]⟩
def rP(K:fg)(C:Addr):Bool:=plainGet K C "" &&hasDictIn K C&&plainOver K C&&findIn K (.ref C) "__setattr__" ==some (some (.builtin "object.__setattr__")) &&
 (AT.all λx=>findIn K (.ref C) (eK x) ==some none&&takerIn K C (eK x) ==some none) &&isClsIn K C
def LA(o:Obj):Prop:=∃es n,o.data=.dict es n
structure gV(K:fg)(B:Heap)(ak:List (Addr×Obj))(os:bL)(H:Hp)(s:Shared):Prop where
 st:xE K B
 stays:B.StaysIn s.heap
 rel:ki (rP K) H s.heap
 nO:∀a,FP H s.heap a->B.get? a=none
 ak:∀p∈ak,B.get? p.1=none/\¬FP H s.heap p.1/\LA p.2/\∃sl,s.heap.get? p.1=some {p.2 with slots:=sl}
 gens:s.gens=#[]
 os:s.os=os
theorem gV.down(st:xE K B)(k:B.StaysIn B')(S:gV K B' ak os H s):gV K B ak os H s:=
 ⟨st,λb o e=>S.stays b o (k b o e),S.rel,λa f=>dF k (S.nO a f),λp h=>⟨dF k (S.ak p h).1,(S.ak p h).2⟩,S.gens,S.os⟩
theorem gV.less(S:gV K B ak os H s)(l:∀a mo,H' a=some mo->H a=some mo):gV K B ak os H' s:=
 ⟨S.st,S.stays,S.rel.less l,λa f=>S.nO a (f.less l),λp h=>⟨(S.ak p h).1,λf=>(S.ak p h).2.1 (f.less l),(S.ak p h).2.2⟩,S.gens,S.os⟩
theorem gV.keep(S:gV K B ak os H s)(k:jt T s.heap s'.heap)(j:B.StaysIn s'.heap)(h1:∀a,FP H s.heap a->¬T a)(h2:∀a i,qX s.heap a i->¬T a)(h3:∀p∈ak,¬T p.1)(m:s'.gens=#[])(l:s'.os=os):gV K B ak os H s':=by
 erw[<-⟨S.st,j,S.rel.keep k h1 h2,λa f=>S.nO a ((S.rel.pV k h1 a).mp f),λp h=>?_,m,l⟩,dX (S.ak p h),(a b c o),bf o,(sl d),gI (id c),(t n e),bf (k p.1 _ (h3 p h) d (λv q=>by rw[show({p.2 with slots:=sl}:Obj).data=p.2.data from rfl,e] at q;injection q)),(g r),<-⟨a,λf=>b ((S.rel.pV k h1 _).mp f),c,g,r⟩]
theorem gV.grow(S:gV K B ak os H s)(k:∀b o,s.heap.get? b=some o->s'.heap.get? b=some o)(a:s'.gens=#[])(h:s'.os=os):gV K B ak os H s':=
 S.keep (jt.of_keeps k) (λb o e=>k b o (S.stays b o e)) (λ_ _=>id) (λ_ _ _=>id) (λ_ _=>id) a h
theorem gV.ups(S:gV K B ak os H s)(k:s.heap.UpToSlots s'.heap)(a:B.StaysIn s'.heap)(b:s'.gens=#[])(h:s'.os=os):gV K B ak os H s':=
 S.keep (jt.J4 k) a (λ_ _=>id) (λ_ _ _=>id) (λ_ _=>id) b h
theorem gV.same(S:gV K B ak os H s)(e:s'.heap=s.heap)(a:s'.gens=s.gens:=by rfl)(h:s'.os=s.os:=by rfl):gV K B ak os H s':=
 S.grow (λb o q=>by erw[aj e,<-q]) (a.trans S.gens) (h.trans S.os)
def Hid(ak:List (Addr×Obj))(H:Hp)(h:Heap)(P:Addr->Prop)(a:Addr):Prop:=FP H h a\/P a\/∃p∈ak,p.1=a
theorem gV.up(S:gV K B ak os H s)(P:Addr->Prop)(c:∀a,P a->B.get? a=none):
  B.StaysIn (qO (Hid ak H s.heap P) s.heap):=λb o e=>(jr _ _ _ _).mpr ⟨(λx=>by
   rcases x with f|f|⟨p,h,rfl⟩
   ·rw[S.nO b f] at e;injection e
   ·rw[c b f] at e;injection e
   ·rw[(S.ak p h).1] at e;injection e),S.stays b o e⟩
theorem gV.raise(S:gV K B ak os H s)(P:Addr->Prop)(b:∀a,P a->B.get? a=none):gV K (qO (Hid ak H s.heap P) s.heap) ak os H s:=
 ⟨S.st.keeps (S.up P b),nR _ _,S.rel,λ_ f=>mX (.inl f),λp h=>⟨mX (.inr (.inr ⟨p,h,rfl⟩)),(S.ak p h).2⟩,S.gens,S.os⟩
theorem gV.v_(S:gV K B ak os H s)(j:∀a,P a->∀i,¬qX s.heap a i):dM s.heap (qO (Hid ak H s.heap P) s.heap):=λa i t=>by
 erw[cX t,(o h b r),<-⟨o,(jr _ _ _ _).mpr ⟨λx=>?_,h⟩,b,r⟩];rcases x with f|f|⟨p,d,rfl⟩
 ·exact S.rel.zG f ⟨o,h,b,r⟩
 ·exact j a f i ⟨o,h,b,r⟩
 ·erw[dX (S.ak p d),(_ _ c k),gI c,(l n g),bf k,(sl e)];rw[e] at h;injection h with h;subst h
  erw[bf r,(m q)];rw[g] at q;injection q
theorem dM.of_stays(k:B.StaysIn h):dM B h:=λ_ _=>bI λo e r=>⟨o,k _ o e,r⟩
inductive Kd|loc|cell|ro
abbrev dH:=List (Str×Kd×Nat)
structure D4(N:dH)(au:mq)(ρ:Loc)(B:Heap)(ak:List (Addr×Obj))(H:Hp)(h:Heap):Prop where
 ns:∃m,h.Ns au.locals m/\∀x k i,(x,k,i)∈N->k=.loc->∀v,ρ i=some v->∃val,m x=some val/\c9 h val v
 nO:B.get? au.locals=none
 off:¬FP H h au.locals
 out:∀p∈ak,p.1≠au.locals
 cell:∀x i,(x,Kd.cell,i)∈N->∃c o,au.cells.lookup x=some c/\c≠au.locals/\B.get? c=none/\¬FP H h c/\(∀p∈ak,p.1≠c)/\h.get? c=some o/\∃v?,o.data=.cell v?/\∀v,ρ i=some v->∃val,v?=some val/\c9 h val v
 inj:∀x y i j c,(x,Kd.cell,i)∈N->(y,Kd.cell,j)∈N->au.cells.lookup x=some c->au.cells.lookup y=some c->x=y
 ro:∀x i,(x,Kd.ro,i)∈N->∀v,ρ i=some v->∃c val,au.cells.lookup x=some c/\B.IsCell c (some val)/\c9 B val v
def Own(N:dH)(au:mq)(a:Addr):Prop:=a=au.locals\/∃x i,(x,Kd.cell,i)∈N/\au.cells.lookup x=some a
section
variable{N:dH}
theorem D4.NK(F:D4 N au ρ B ak H h)(o:Own N au a):B.get? a=none:=by
 rcases o with rfl|⟨x,i,m,e⟩
 ·exact F.nO
 ·erw[fX (F.cell x i m),(c _ d _ b _)];rw[e] at d;injection d with d;subst d;exact b
theorem D4.u_(F:D4 N au ρ B ak H h)(o:Own N au a):∀b,¬qX h a b:=by
 rintro b ⟨ob,d,hc,n,hd⟩
 rcases o with rfl|⟨x,i,m,e⟩
 ·erw[ay F.ns,(_ p _),iB p,(o q r g f _)];rw[g] at d;injection d with d;subst d;rw[f] at hd;injection hd
 ·erw[iC (F.cell x i m),(c l j _ _ _ t),cA t,(_ g k),ay k];intro v? f _;rw[e] at j;injection j with j;subst j;rw[g] at d;injection d with d;subst d;rw[f] at hd;injection hd
theorem D4.down(k:B.StaysIn B')(a:∀x i,(x,Kd.ro,i)∈N->∀v,ρ i=some v->∃c val,au.cells.lookup x=some c/\B.IsCell c (some val)/\c9 B val v)(F:D4 N au ρ B' ak H h):D4 N au ρ B ak H h:=
 ⟨F.ns,dF k F.nO,F.off,F.out,λx i m=>by erw[fX (F.cell x i m),(c o e d b r),<-⟨c,o,e,d,dF k b,r⟩],F.inj,a⟩
theorem D4.up(k:B.StaysIn B')(g:∀a,Own N au a->B'.get? a=none)(F:D4 N au ρ B ak H h):D4 N au ρ B' ak H h:=
 ⟨F.ns,g _ (.inl rfl),F.off,F.out,λx i m=>by erw[fX (F.cell x i m),(c o b f _ r),<-⟨c,o,b,f,g _ (.inr ⟨x,i,m,b⟩),r⟩],F.inj,
  λx i m v e=>by refine df (F.ro x i m v e) ?_;intro c d b f j;exact⟨c,d,b,f.keeps k,j.mono (dM.of_stays k)⟩⟩
theorem D4.keep(F:D4 N au ρ B ak H h)(k:jt T h h')(t:dM h h')(p:∀a,Own N au a->¬T a)(l:∀a,Own N au a->¬FP H' h' a):D4 N au ρ B ak H' h':=by
 erw[ay F.ns,(m R y),mR R,(o D E z n C A),bf (k _ o (p _ (.inl rfl)) z (λr q=>by rw[n] at q;injection q)),(sl e),<-⟨⟨m,⟨_,D,E,e,n,C,A⟩,λx w i g q v f=>?_⟩,F.nO,l _ (.inl rfl),F.out,λx i g=>?_,F.inj,F.ro⟩]
 ·erw[ay (y x w i g q v f),(d a b),<-⟨d,a,b.mono t⟩]
 ·erw[iC (F.cell x i g),(c u j O M S P),cA P,(L K Q),ay Q];intro v? a8 a9;erw[bf (k c u (p _ (.inr ⟨x,i,g,j⟩)) K (λr q=>by rw[a8] at q;injection q)),(s G),<-⟨c,_,j,O,M,l _ (.inr ⟨x,i,g,j⟩),L,G,v?,a8,λv f=>by erw[ay (a9 v f),(d J I),<-⟨d,J,I.mono t⟩]⟩]
end
structure Sat(K:fg)(N:dH)(au:mq)(ρ:Loc)(B:Heap)(ak:List (Addr×Obj))(os:bL)(H:Hp)(s:Shared):Prop where
 h:gV K B ak os H s
 f:D4 N au ρ B ak H s.heap
section
variable{N:dH}
def top(N:dH)(au:mq)(ak:List (Addr×Obj))(H:Hp)(h:Heap):Heap:=qO (Hid ak H h (Own N au)) h
theorem Sat.stays(S:Sat K N au ρ B ak os H s):B.StaysIn (top N au ak H s.heap):=S.h.up _ λ_ o=>S.f.NK o
theorem Sat.v_(S:Sat K N au ρ B ak os H s):dM s.heap (top N au ak H s.heap):=S.h.v_ λ_ o=>S.f.u_ o
theorem Sat.raise(S:Sat K N au ρ B ak os H s):Sat K N au ρ (top N au ak H s.heap) ak os H s:=
 ⟨S.h.raise _ λ_ o=>S.f.NK o,S.f.up S.stays λ_ o=>mX (.inr (.inl o))⟩
theorem Sat.down(G:Sat K N au ρ B ak os H s)(k:B.StaysIn B')(S:Sat K N au ρ B' ak os H' s'):Sat K N au ρ B ak os H' s':=
 ⟨S.h.down G.h.st k,S.f.down k G.f.ro⟩
theorem Sat.less(S:Sat K N au ρ B ak os H s)(l:∀a mo,H' a=some mo->H a=some mo):Sat K N au ρ B ak os H' s:=
 ⟨S.h.less l,S.f.keep (jt.of_keeps λ_ _ e=>e) (λ_ _ t=>t) (λ_ _=>id) λa o f=>by
  rcases o with rfl|⟨x,i,m,e⟩
  ·exact S.f.off (f.less l)
  ·erw[iC (S.f.cell x i m),(c _ b _ _ n _)];rw[e] at b;injection b with b;subst b;exact n (f.less l)⟩
theorem D4.Ax(F:D4 N au ρ B ak H h)(o:Own N au a):¬FP H h a:=by
 rcases o with rfl|⟨x,i,m,e⟩
 ·exact F.off
 ·erw[iC (F.cell x i m),(c _ b _ _ n _)];rw[e] at b;injection b with b;subst b;exact n
theorem Sat.keep(S:Sat K N au ρ B ak os H s)(k:jt T s.heap s'.heap)(b:B.StaysIn s'.heap)(h1:∀a,FP H s.heap a->¬T a)(h2:∀a i,qX s.heap a i->¬T a)(h3:∀p∈ak,¬T p.1)(h4:∀a,Own N au a->¬T a)(d:s'.gens=#[])(c:s'.os=os):Sat K N au ρ B ak os H s':=
 ⟨S.h.keep k b h1 h2 h3 d c,S.f.keep k (k.tup h2) h4 λa o f=>S.f.Ax o ((S.h.rel.pV k h1 a).mp f)⟩
theorem Sat.grow(S:Sat K N au ρ B ak os H s)(k:∀b o,s.heap.get? b=some o->s'.heap.get? b=some o)(c:s'.gens=#[])(a:s'.os=os):Sat K N au ρ B ak os H s':=
 S.keep (jt.of_keeps k) (λb o e=>k b o (S.h.stays b o e)) (λ_ _=>id) (λ_ _ _=>id) (λ_ _=>id) (λ_ _=>id) c a
theorem Sat.same(S:Sat K N au ρ B ak os H s)(e:s'.heap=s.heap)(c:s'.gens=s.gens:=by rfl)(a:s'.os=s.os:=by rfl):Sat K N au ρ B ak os H s':=
 S.grow (λb o q=>by erw[aj e,<-q]) (c.trans S.h.gens) (a.trans S.h.os)
theorem Sat.tok(S:Sat K N au ρ B ak os H s)(t:Nat):Sat K N au ρ B ak os H {s with toks:=t}:=S.same rfl
theorem Sat.push(S:Sat K N au ρ B ak os H s)(o:Obj):Sat K N au ρ B ak os H {s with heap:=s.heap.push o}:=S.grow (λ_ _ e=>bB o e) S.h.gens S.h.os
end
section
structure Ar(A:Around)(l:List mq)(n:Nat):Prop where
 handled:A.handled=none
 frames:A.frames=some l
 depth:A.depth+4*n<=900
 units:A.units+100*n<=9000
structure Wc(A:Around)(l:List mq)(n:Nat):Prop where
 handled:A.handled=none
 frames:A.frames=some l
 depth:A.depth+4*n+2<=900
 units:A.units+100*n+90<=9000
theorem Wc.ar(h:Wc A l n):Ar A l n:=⟨h.handled,h.frames,by have:=h.depth;exact zwd this rfl,by have:=h.units;exact zwd this rfl⟩
theorem Wc.made(h:Wc A l n)(C:Addr)(a:List Value):Ar (A.under (.builtin "type.__call__" ⟨.ref C::a,[]⟩)) l n:=by
 refine⟨h.handled,h.frames,?_,?_⟩
 ·show A.depth+1+4*n<=900;have:=h.depth;exact fe [(zk (zp av aW) 2,zn 900)] (zp (zs av) aW,zn 900) rt this
 ·show A.units+1+100*n<=9000;have:=h.units;exact fe [(zk (zp av aW) 90,zn 9000)] (zp (zs av) aW,zn 9000) rt this
def zJ(l:List mq)(ak:List (Addr×Obj)):Prop:=∀e∈l,e.scope.kind≠.module/\∃L,e.frame=some L/\∃p∈ak,p.1=L
def aY(af:eA)(w:bY)(K:fg)(n:Nat)(f:Addr)(args:List V)(H:Hp)(Q:V->Hp->Prop)(X:Addr->Hp->Prop):Prop:=
 ∀(B:Heap) (ak:List (Addr×Obj)) (os:bL) (l:List mq) (A:Around) (s:Shared) (aQ:List Value),
  Ar A l n->zJ l ak->gV K B ak os H s->bU B aQ args->
  dU (model af w) A (.call (.ref f) ⟨aQ,[]⟩) (λr s'=>match r with
   | .ok (.ret v)=>∃x H',c9 s'.heap v x/\Q x H'/\gV K B ak os H' s'
   | .ok _=>False
   | .error e=>∃ea C,∃_:Unit,∃H',e=.ref ea/\X C H'/\gV K B ak os H' s'/\Way B l ea (.ref C) .none s'.heap) s
theorem aY.mono{K:fg}(h:aY af w K n f args H Q X)(p:∀v i,Q v i->∃g,(∀a mo,g a=some mo->i a=some mo)/\Q' v g)(o:∀C i,X C i->∃g,(∀a mo,g a=some mo->i a=some mo)/\X' C g):aY af w K n f args H Q' X':=
 λB ak os l A s u a b c d=>kP (h B ak os l A s u a b c d) λr D z=>by
  rcases r with e|(v|_|_|v)
  ·erw[iR z,(t C y i e1 x S F),ay (o _ _ x),(g j k),<-⟨t,C,y,g,e1,k,S.less j,F⟩]
  ·exact z
  ·exact z
  ·exact z
  ·erw[df z,(x i r q S),ay (p _ _ q),(g j m),<-⟨x,g,r,m,S.less j⟩]
inductive Ff|fn(f:Addr)|cls (C:Addr) (init:Addr)|len|bytes|cZ|sorted|tuple|list|sum|min
set_option genSizeOf true
inductive E where
 |cst (v:V)|loc (i:Nat)
 |not (e:E)|and (es:List E)|or (es:List E)|ite (c a b:E)
 |bin (op:B9) (a b:E)|cmp (op:CmpOp) (a b:E)|qG (e:E) (neg:Bool)
 |attr (e:E) (k:Nat)|sub (e i:E)|A0 (e:E) (lo hi:Option E)
 |tup (es:List E)|lst (es:List E)
 |call (c:Ff) (es:List E)|bp (e:E) (m:Nat) (es:List E)
 |comp (elt it:E) (cond:Option E)|j6 (elt hi:E)
 |text (ps:List E)
 |JO
inductive S where
 |expr (e:E)|bq (i:Nat) (e:E)|cD (o:E) (k:Nat) (e:E)|hK (o i e:E)|zB (is:List Nat) (e:E)
 |pj (i:Nat) (op:B9) (e:E)|Dk (o:E) (k:Nat) (op:B9) (e:E)
 |dm (t:E) (a b:List S)|oK (t:E) (b:List S)|q7 (x:Nat) (e:E) (b:List S)|forR (x:Nat) (lo:Option E) (hi:E) (b:List S)
 |ret (e:Option E)|brk|pass|raise (C:Addr) (e:E)|kA (b:List S) (C:Addr) (v:V)|iw (b:List S) (C C':Addr)
 |bad
set_option genSizeOf false
inductive Fl|next|brk|ret(v:V)
def big(i:Int):Prop:=i.natAbs<2^400
def wu(x y:V)(f:Int->Int->Prop):Prop:=match x with
 | .int a=>(match y with| .int b=>f a b|_=>False)
 |_=>False
def DE(x:V)(f:Int->Prop):Prop:=match x with
 | .int a=>f a
 |_=>False
theorem HI(h:DE x f):∃a,x=.int a/\f a:=by
 induction x using V.casesOn with
 |int a=>exact⟨a,rfl,h⟩
 |_=>exact h.elim
theorem Pj(h:wu x y f):∃a b,x=.int a/\y=.int b/\f a b:=by
 induction x using V.casesOn with
 |int a=>exact let⟨b,e,h⟩:=HI h;⟨a,b,rfl,e,h⟩
 |_=>exact h.elim
def jV(H:Hp)(a:Addr)(f:List V->Prop):Prop:=match H a with
 |some (.list vs)=>f vs
 |_=>False
theorem f_(h:jV H a f):∃vs,H a=some (.list vs)/\f vs:=by
 unfold jV at h;cases e:H a with
 |none=>rw[e] at h;exact h.elim
 |some m=>
  rw[e] at h
  induction m using MO.casesOn with
  |list vs=>exact⟨vs,rfl,h⟩
  |_=>exact h.elim
theorem gP(e:H a=some (.list vs))(h:f vs):jV H a f:=by
 unfold jV;erw[aj e,<-h]
def fJ(v:V)(H:Hp)(Q:Bool->Prop):Prop:=match v with
 | .none=>Q false
 | .bool b=>Q b
 | .int i=>Q (i !=0)
 | .ref a=>jV H a λvs=>vs.length<=100000/\Q (!vs.isEmpty)
 |_=>False
def kv(op:B9)(x y:V)(H:Hp)(Q:V->Hp->Prop):Prop:=match op with
 | .Add=>(match x with
   | .int a=>DE y λb=>Q (.int (a+b)) H
   | .bytes a=>(match y with
     | .bytes b=>a.length+b.length<=1000000/\Q (.bytes (a++b)) H
     |_=>False)
   | .ref a=>(match y with
     | .ref b=>jV H a λxs=>jV H b λys=>xs.length+ys.length<=100000/\∀c,H c=none->Q (.ref c) (upd H c (.list (xs++ys)))
     |_=>False)
   |_=>False)
 | .Sub=>wu x y λa b=>Q (.int (a-b)) H
 | .Mult=>(match x with
   | .int a=>DE y λb=>big a/\big b/\Q (.int (a*b)) H
   | .bytes a=>DE y λb=>a≠[]/\2<=b/\b<=1000/\a.length<=1000/\Q (.bytes (kK b.toNat a).flatten) H
   |_=>False)
 | .FloorDiv=>wu x y λa b=>big a/\big b/\b≠0/\Q (.int (a.fdiv b)) H
 | .Mod=>wu x y λa b=>b≠0/\Q (.int (a.fmod b)) H
 | .Pow=>wu x y λa b=>0<=b/\b<=1000/\a.natAbs<2^64/\Q (.int (a^b.toNat)) H
 | .BitAnd=>wu x y λa b=>Q (.int (gr a b)) H
 | .BitOr=>wu x y λa b=>Q (.int (jf a b)) H
 | .LShift=>wu x y λa b=>0<=b/\b<=1000/\a.natAbs<2^64/\Q (.int (a*2^b.toNat)) H
 | .RShift=>wu x y λa b=>0<=b/\Q (.int (a.fdiv (2^b.toNat))) H
 |_=>False
noncomputable def plain:Nat->V->Bool
 |0,v=>(match v with| .none| .bool _| .int _| .bytes _=>true|_=>false)
 |n+1,v=>(match v with| .none| .bool _| .int _| .bytes _=>true| .tup vs=>vs.all (plain n)|_=>false)
def eqW(x y:V)(H:Hp)(Q:Bool->Prop):Prop:=match x with
 | .int a=>DE y λb=>Q (a==b)
 | .bytes a=>(match y with
   | .bytes b=>Q (a==b)
   |_=>False)
 | .tup a=>(match y with
   | .tup b=>a=b/\plain 9 (.tup a)=true/\Q true
   |_=>False)
 | .ref a=>(match y with
   | .ref b=>jV H a λxs=>jV H b λys=>xs=ys/\(xs.all (plain 9))=true/\Q true
   |_=>False)
 |_=>False
def jF(op:CmpOp)(x y:V)(H:Hp)(Q:Bool->Prop):Prop:=match op with
 | .Eq=>eqW x y H Q
 | .NotEq=>eqW x y H λb=>Q (!b)
 | .Lt=>wu x y λa b=>Q (decide (a<b))
 | .LtE=>wu x y λa b=>Q (decide (a<=b))
 | .Gt=>wu x y λa b=>Q (decide (a>b))
 | .GtE=>wu x y λa b=>Q (decide (a≥b))
 |_=>False
noncomputable def isNone:V->Option Bool
 | .none=>some true
 | .tup _=>some false
 | .int _=>some false
 | .bytes _=>some false
 | .bool _=>some false
 | .ref _=>some false
 | .text=>some false
def Jf(x:V)(H:Hp)(f:Addr->Addr->List (Nat×V)->Prop):Prop:=match x with
 | .ref a=>(match H a with|some (.inst C fs)=>f a C fs|_=>False)
 |_=>False
theorem Ij(h:Jf x H f):∃a C b,x=.ref a/\H a=some (.inst C b)/\f a C b:=by
 induction x using V.casesOn with
 |ref a=>
  unfold Jf at h;dsimp only at h;cases e:H a with
  |none=>rw[e] at h;exact h.elim
  |some m=>
   rw[e] at h
   induction m using MO.casesOn with
   |inst C b=>exact⟨a,C,b,rfl,e,h⟩
   |_=>exact h.elim
 |_=>exact h.elim
theorem Hl(e:H a=some (.inst C fs))(h:f a C fs):Jf (.ref a) H f:=by
 unfold Jf;dsimp only;erw[aj e,<-h]
def yv(x:V)(k:Nat)(H:Hp)(Q:V->Prop):Prop:=Jf x H λ_ _ fs=>k<27/\∃v,Aw fs k=some v/\Q v
def kX(x:V)(k:Nat)(v:V)(H:Hp)(Q:Hp->Prop):Prop:=Jf x H λa C fs=>k<27/\fs.length<=100/\Q (upd H a (.inst C (xB fs k v)))
noncomputable def KR(vs:List V)(i:Int):Option V:=if 0<=i then vs[i.toNat]? else if-(vs.length:Int)<=i then vs[(i+vs.length).toNat]? else none
def AR(x i:V)(H:Hp)(Q:V->Prop):Prop:=DE i λk=>match x with
 | .ref a=>jV H a λvs=>vs.length<=100000/\∃v,KR vs k=some v/\Q v
 | .tup vs=>vs.length<=100000/\0<=k/\∃v,vs[k.toNat]?=some v/\Q v
 | .bytes b=>b.length<=1000000/\0<=k/\∃u,b[k.toNat]?=some u/\Q (.int u.toNat)
 |_=>False
def vR(x i v:V)(H:Hp)(Q:Hp->Prop):Prop:=DE i λk=>match x with
 | .ref a=>jV H a λvs=>vs.length<=100000/\0<=k/\k<vs.length/\Q (upd H a (.list (vs.set k.toNat v)))
 |_=>False
noncomputable def cut{α:Type}(l:List α)(lo hi:Option Int):List α:=(match hi with|some h=>l.take h.toNat|none=>l).drop (match lo with|some k=>k.toNat|none=>0)
def te:Option Int->Prop
 |some k=>0<=k/\k<2^60
 |none=>True
def ND(x:V)(lo hi:Option Int)(H:Hp)(Q:V->Hp->Prop):Prop:=te lo/\te hi/\match x with
 | .ref a=>jV H a λvs=>vs.length<=100000/\∀c,H c=none->Q (.ref c) (upd H c (.list (cut vs lo hi)))
 | .bytes b=>b.length<=1000000/\Q (.bytes (cut b lo hi)) H
 |_=>False
noncomputable def kT:List V->Option (List Int)
 |[]=>some []
 | .int i::r=>(kT r).map (i:: ·)
 |_=>none
noncomputable def qk:List V->Option (List UInt8)
 |[]=>some []
 | .bytes b::r=>(qk r).map (b++ ·)
 |_=>none
noncomputable def toBytes(l:List Int):List UInt8:=l.map λi=>cM i.toNat
def Pg(l:List V)(f:Addr->Prop):Prop:=match l with
 |[.ref a]=>f a
 |_=>False
theorem Ug{l:List V}(h:Pg l f):∃a,l=[.ref a]/\f a:=by
 induction l using lcs with
 |nil=>exact h.elim
 |cons x l=>
  induction l using lcs with
  |cons=>induction x using V.casesOn<;>exact h.elim
  |nil=>
   induction x using V.casesOn with
   |ref a=>exact⟨a,rfl,h⟩
   |_=>exact h.elim
def jG(c:Ff)(args:List V)(H:Hp)(Q:V->Hp->Prop):Prop:=match c with
 | .len=>(match args with
   |[.bytes b]=>b.length<=1000000/\Q (.int b.length) H
   |l=>Pg l λa=>jV H a λvs=>vs.length<=100000/\Q (.int vs.length) H)
 | .bytes=>(match args with
   |[.bytes b]=>Q (.bytes b) H
   |l=>Pg l λa=>match H a with
     |some (.cZ b)=>b.length<=1000000/\Q (.bytes b) H
     |_=>jV H a λvs=>∃l,kT vs=some l/\(∀i∈l,0<=i/\i<256)/\l.length<=1000/\Q (.bytes (toBytes l)) H)
 | .cZ=>args=[]/\∀c,H c=none->Q (.ref c) (upd H c (.cZ []))
 | .sorted=>Pg args λa=>jV H a λvs=>∃l,kT vs=some l/\l.Pairwise (· <=·)/\l.length<64/\∀c,H c=none->Q (.ref c) (upd H c (.list vs))
 | .tuple=>Pg args λa=>jV H a λvs=>vs.length<=1000/\Q (.tup vs) H
 | .list=>Pg args λa=>jV H a λvs=>vs.length<=1000/\∀c,H c=none->Q (.ref c) (upd H c (.list vs))
 | .sum=>Pg args λa=>jV H a λvs=>∃l,kT vs=some l/\l.length<=1000/\Q (.int l.sum) H
 | .min=>(match args with
   |[.int a,.int b]=>Q (.int (min a b)) H
   |_=>False)
 |_=>False
noncomputable def MT:List String:=["append","pop","extend","join","varint","lengthed","flag","done","left","row","copy","payload","size","encode","maybe_term","stable_to","truncate_and_append","part"]
def zU(m:Nat):Str:=eK (MT.getD m "")
inductive GE|call(c:Ff)|int (i:Int)|exc (C:Addr)|nk
structure lS where
 bp:Addr->Nat->Option Addr
 sub:Addr->Addr->Bool
 glob:Str->Option GE
section
variable(af:eA)(w:bY)(K:fg)(T:lS)(n:Nat)
def jY(x:V)(m:Nat)(args:List V)(H:Hp)(Q:V->Hp->Prop)(X:Addr->Hp->Prop):Prop:=match x with
 | .ref a=>(match H a with
   |some (.list vs)=>vs.length<=100000/\((m=0/\∃v,args=[v]/\Q .none (upd H a (.list (vs++[v]))))\/(m=1/\∃i v,args=[.int i]/\0<=i/\vs[i.toNat]?=some v/\Q v (upd H a (.list (vs.eraseIdx i.toNat)))))
   |some (.cZ b)=>b.length<=100000/\((m=0/\∃i,args=[.int i]/\0<=i/\i<256/\Q .none (upd H a (.cZ (b++[cM i.toNat]))))\/(m=2/\∃c,args=[.bytes c]/\c.length<=100000/\Q .none (upd H a (.cZ (b++c)))))
   |some (.inst C _)=>∃f,T.bp C m=some f/\aY af w K n f (.ref a::args) H Q X
   |none=>False)
 | .bytes b=>b=[]/\m=3/\Pg args λa=>jV H a λvs=>∃b,qk vs=some b/\vs.length<=1000/\b.length<=100000/\Q (.bytes b) H
 |_=>False
end
inductive MK|list|cZ|bytes|inst(C:Addr)
noncomputable def mk?(x:V)(H:Hp):Option MK:=match x with
 | .ref a=>(match H a with
   |some (.list _)=>some .list
   |some (.cZ _)=>some .cZ
   |some (.inst C _)=>some (.inst C)
   |none=>none)
 | .bytes b=>if b.isEmpty=true then some .bytes else none
 |_=>none
noncomputable def O3(T:lS):MK->Nat->Bool
 | .list,m=>m==0||m==1
 | .cZ,m=>m==0||m==2
 | .bytes,m=>m==3
 | .inst C,m=>(T.bp C m).isSome
section
variable(af:eA)(w:bY)(K:fg)(T:lS)(n:Nat)
def j8(elt:V->Hp->(V->Hp->Prop)->Prop)(cond:V->Hp->(Bool->Hp->Prop)->Prop)(qV:Hp->Prop):List V->List V->Hp->(List V->Hp->Prop)->Prop
 |[],cL,H,Q=>Q cL H
 |v::vs,cL,H,Q=>cond v H λb H'=>if b=true then elt v H' λx cI=>qV cI/\j8 elt cond qV vs (cL++[x]) cI Q else qV H'/\j8 elt cond qV vs cL H' Q
def forL(step:V->Loc->Hp->(Fl->Loc->Hp->Prop)->Prop)(qV:Hp->Prop):List V->Loc->Hp->(Fl->Loc->Hp->Prop)->Prop
 |[],ρ,H,Q=>Q .next ρ H
 |v::vs,ρ,H,Q=>step v ρ H λfl ew H'=>match fl with
   | .next=>qV H'/\forL step qV vs ew H' Q
   | .brk=>Q .next ew H'
   | .ret r=>Q (.ret r) ew H'
noncomputable def gH(lo hi:Int):List V:=(gp (hi-lo).toNat).map λk:Nat=>V.int (lo+(k:Int))
def Du:Addr->Hp->Prop:=λ_ _=>False
def NS(o:Option V)(P:V->Prop):Prop:=match o with
 |some v=>P v
 |none=>False
theorem ze(h:NS o P):∃v,o=some v/\P v:=by
 induction o using tT with
 |some v=>exact⟨v,rfl,h⟩
 |none=>exact h.elim
theorem zq(e:o=some v)(h:P v):NS o P:=by refine' aj e ?_;exact h
noncomputable def MJ(K:fg):Addr:=match K.getLast? with
 |some p=>p.1
 |none=>0
noncomputable def OS:Value->Int
 | .int i _=>i
 |_=>0
def Gd(K:fg):List Int:=match K.getLast? with
 |some p=>(match p.2.data with
   | .seq v _=>(v.toList.take 24).map OS
   |_=>[])
 |none=>[]
mutual
def dk:E->Loc->Hp->(V->Hp->Prop)->(Addr->Hp->Prop)->Prop
 | .cst v,_,H,Q,_=>Q v H
 | .loc i,ρ,H,Q,_=>NS (ρ i) λv=>Q v H
 | .not e,ρ,H,Q,X=>dk e ρ H (λv H'=>fJ v H' λb=>Q (.bool (!b)) H') X
 | .and es,ρ,H,Q,X=>IB es ρ H Q X
 | .or es,ρ,H,Q,X=>PO es ρ H Q X
 | .ite c a b,ρ,H,Q,X=>tw c ρ H (λt H'=>if t=true then dk a ρ H' Q X else dk b ρ H' Q X) X
 | .bin op a b,ρ,H,Q,X=>dk a ρ H (λx H'=>dk b ρ H' (λy cI=>kv op x y cI Q) X) X
 | .cmp op a b,ρ,H,Q,X=>dk a ρ H (λx H'=>dk b ρ H' (λy cI=>jF op x y cI λt=>Q (.bool t) cI) X) X
 | .qG e neg,ρ,H,Q,X=>dk e ρ H (λv H'=>∃t,isNone v=some t/\Q (.bool (t !=neg)) H') X
 | .attr e k,ρ,H,Q,X=>dk e ρ H (λv H'=>yv v k H' λu=>Q u H') X
 | .sub e i,ρ,H,Q,X=>dk e ρ H (λv H'=>dk i ρ H' (λj cI=>AR v j cI λu=>Q u cI) X) X
 | .A0 e lo hi,ρ,H,Q,X=>dk e ρ H (λv H'=>QG lo ρ H' (λa cI=>QG hi ρ cI (λb abq=>ND v a b abq Q) X) X) X
 | .tup es,ρ,H,Q,X=>es.length<=100/\gY es ρ H (λvs H'=>Q (.tup vs) H') X
 | .lst es,ρ,H,Q,X=>es.length<=100/\gY es ρ H (λvs H'=>∀c,H' c=none->Q (.ref c) (upd H' c (.list vs))) X
 | .call c es,ρ,H,Q,X=>gY es ρ H (λvs H'=>match c with
   | .fn f=>aY af w K n f vs H' Q X
   | .cls C f=>∀a,H' a=none->aY af w K n f (.ref a::vs) (upd H' a (.inst C [])) (λr cI=>r=.none/\Q (.ref a) cI) X
   |c=>jG c vs H' Q) X
 | .bp e m es,ρ,H,Q,X=>dk e ρ H (λv H'=>∃κ,mk? v H'=some κ/\O3 T κ m=true/\gY es ρ H' (λvs cI=>mk? v cI=some κ/\jY af w K T n v m vs cI Q X) X) X
 | .comp elt it cond,ρ,H,Q,X=>dk it ρ H (λv H'=>match v with
   | .ref a=>(match H' a with
     |some (.list vs)=>vs.length<=1000/\j8 (λv H Q=>dk elt (upd ρ 1000 v) H Q Du) (λv H Q=>wpC cond (upd ρ 1000 v) H Q Du) (λcI=>cI a=some (.list vs)) vs [] H' λcL cI=>∀c,cI c=none->Q (.ref c) (upd cI c (.list cL))
     |_=>False)
   |_=>False) X
 | .j6 elt hi,ρ,H,Q,X=>dk hi ρ H (λv H'=>∃k,v=.int k/\0<=k/\k<=1000/\
   j8 (λv H Q=>dk elt (upd ρ 1000 v) H Q Du) (λ_ H Q=>Q true H) (λ_=>True) (gH 0 k) [] H' λcL cI=>∀c,cI c=none->Q (.ref c) (upd cI c (.list cL))) X
 | .text ps,ρ,H,Q,X=>ps.length<=8/\gY ps ρ H (λvs H'=>(∀v∈vs,∃i,v=.int i/\big i)/\Q .text H') X
 | .JO,ρ,H,Q,_=>NS (ρ 0) λv=>v=.ref (MJ K)/\∀c,H c=none->Q (.ref c) (upd H c (.list ((Gd K).map V.int)))
def tw:E->Loc->Hp->(Bool->Hp->Prop)->(Addr->Hp->Prop)->Prop
 | .not e,ρ,H,Q,X=>tw e ρ H (λb H'=>Q (!b) H') X
 | .and es,ρ,H,Q,X=>Cr true es ρ H Q X
 | .or es,ρ,H,Q,X=>Cr false es ρ H Q X
 | .ite c a b,ρ,H,Q,X=>tw c ρ H (λt H'=>if t=true then tw a ρ H' Q X else tw b ρ H' Q X) X
 | .cmp op a b,ρ,H,Q,X=>dk a ρ H (λx H'=>dk b ρ H' (λy cI=>jF op x y cI λt=>Q t cI) X) X
 | .qG e neg,ρ,H,Q,X=>dk e ρ H (λv H'=>∃t,isNone v=some t/\Q (t !=neg) H') X
 | .cst v,_,H,Q,_=>fJ v H λb=>Q b H
 | .loc i,ρ,H,Q,_=>NS (ρ i) λv=>fJ v H λb=>Q b H
 | .attr e k,ρ,H,Q,X=>dk e ρ H (λv H'=>yv v k H' λu=>fJ u H' λb=>Q b H') X
 | .sub e i,ρ,H,Q,X=>dk e ρ H (λv H'=>dk i ρ H' (λj cI=>AR v j cI λu=>fJ u cI λb=>Q b cI) X) X
 | .call c es,ρ,H,Q,X=>gY es ρ H (λvs H'=>match c with
   | .fn f=>aY af w K n f vs H' (λv cI=>fJ v cI λb=>Q b cI) X
   |_=>False) X
 | .bp e m es,ρ,H,Q,X=>dk e ρ H (λv H'=>∃κ,mk? v H'=some κ/\O3 T κ m=true/\gY es ρ H' (λvs cI=>mk? v cI=some κ/\jY af w K T n v m vs cI (λv cI=>fJ v cI λb=>Q b cI) X) X) X
 |_,_,_,_,_=>False
def wpC:Option E->Loc->Hp->(Bool->Hp->Prop)->(Addr->Hp->Prop)->Prop
 |none,_,H,Q,_=>Q true H
 |some e,ρ,H,Q,X=>tw e ρ H Q X
def QG:Option E->Loc->Hp->(Option Int->Hp->Prop)->(Addr->Hp->Prop)->Prop
 |none,_,H,Q,_=>Q none H
 |some e,ρ,H,Q,X=>dk e ρ H (λv H'=>∃k,v=.int k/\Q (some k) H') X
def gY:List E->Loc->Hp->(List V->Hp->Prop)->(Addr->Hp->Prop)->Prop
 |[],_,H,Q,_=>Q [] H
 |e::es,ρ,H,Q,X=>dk e ρ H (λv H'=>gY es ρ H' (λvs cI=>Q (v::vs) cI) X) X
def IB:List E->Loc->Hp->(V->Hp->Prop)->(Addr->Hp->Prop)->Prop
 |[],_,_,_,_=>False
 |e::es,ρ,H,Q,X=>dk e ρ H (λv H'=>match es with
   |[]=>Q v H'
   |_::_=>fJ v H' λb=>if b=true then IB es ρ H' Q X else Q v H') X
def PO:List E->Loc->Hp->(V->Hp->Prop)->(Addr->Hp->Prop)->Prop
 |[],_,_,_,_=>False
 |e::es,ρ,H,Q,X=>dk e ρ H (λv H'=>match es with
   |[]=>Q v H'
   |_::_=>fJ v H' λb=>if b=true then Q v H' else PO es ρ H' Q X) X
def Cr:Bool->List E->Loc->Hp->(Bool->Hp->Prop)->(Addr->Hp->Prop)->Prop
 |all,[],_,H,Q,_=>Q all H
 |all,e::es,ρ,H,Q,X=>tw e ρ H (λb H'=>if b=all then Cr all es ρ H' Q X else Q b H') X
end
def Dg:List Nat->List V->Loc->Loc
 |i::is,v::vs,ρ=>Dg is vs (upd ρ i v)
 |_,_,ρ=>ρ
def Ss(step:Loc->Hp->(Loc->Hp->Prop)->Prop)(ρ:Loc)(H:Hp):Prop:=∀P:Loc->Hp->Prop,(∀ρ H,step ρ H P->P ρ H)->P ρ H
mutual
def wpS:S->Loc->Hp->(Fl->Loc->Hp->Prop)->(Addr->Hp->Prop)->Prop
 | .expr e,ρ,H,Q,X=>dk af w K T n e ρ H (λ_ H'=>Q .next ρ H') X
 | .bq i e,ρ,H,Q,X=>dk af w K T n e ρ H (λv H'=>Q .next (upd ρ i v) H') X
 | .cD o k e,ρ,H,Q,X=>dk af w K T n e ρ H (λv H'=>dk af w K T n o ρ H' (λx cI=>kX x k v cI λH3=>Q .next ρ H3) X) X
 | .hK o i e,ρ,H,Q,X=>dk af w K T n e ρ H (λv H'=>dk af w K T n o ρ H' (λx cI=>dk af w K T n i ρ cI (λj H3=>vR x j v H3 λH4=>Q .next ρ H4) X) X) X
 | .zB is e,ρ,H,Q,X=>dk af w K T n e ρ H (λv H'=>∃vs,v=.tup vs/\vs.length=is.length/\is.length<=8/\Q .next (Dg is vs ρ) H') X
 | .pj i op e,ρ,H,Q,X=>∃u,ρ i=some u/\dk af w K T n e ρ H (λv H'=>∃a b,u=.int a/\v=.int b/\kv op u v H' λr cI=>Q .next (upd ρ i r) cI) X
 | .Dk o k op e,ρ,H,Q,X=>dk af w K T n o ρ H (λx H'=>yv x k H' λu=>dk af w K T n e ρ H' (λv cI=>∃a b,u=.int a/\v=.int b/\kv op u v cI λr H3=>kX x k r H3 λH4=>Q .next ρ H4) X) X
 | .dm t a b,ρ,H,Q,X=>tw af w K T n t ρ H (λc H'=>if c=true then bO a ρ H' Q X else bO b ρ H' Q X) X
 | .oK t b,ρ,H,Q,X=>Ss (λρ H P=>tw af w K T n t ρ H (λc H'=>if c=true then bO b ρ H' (λfl ew cI=>match fl with
   | .next=>P ew cI
   | .brk=>Q .next ew cI
   | .ret v=>Q (.ret v) ew cI) X else Q .next ρ H') X) ρ H
 | .q7 x e b,ρ,H,Q,X=>dk af w K T n e ρ H (λv H'=>match v with
   | .ref a=>(match H' a with
     |some (.list vs)=>vs.length<=1000/\forL (λv ρ H Q=>bO b (upd ρ x v) H Q X) (λcI=>cI a=some (.list vs)) vs ρ H' Q
     |_=>False)
   |_=>False) X
 | .forR x lo hi b,ρ,H,Q,X=>QG af w K T n lo ρ H (λa H'=>dk af w K T n hi ρ H' (λv cI=>∃k,v=.int k/\0<=a.getD 0/\a.getD 0<=1000/\0<=k/\k<=1000/\forL (λv ρ H Q=>bO b (upd ρ x v) H Q X) (λ_=>True) (gH (a.getD 0) k) ρ cI Q) X) X
 | .ret none,ρ,H,Q,_=>Q (.ret .none) ρ H
 | .ret (some e),ρ,H,Q,X=>dk af w K T n e ρ H (λv H'=>Q (.ret v) ρ H') X
 | .brk,ρ,H,Q,_=>Q .brk ρ H
 | .pass,ρ,H,Q,_=>Q .next ρ H
 | .raise C e,ρ,H,_,X=>dk af w K T n e ρ H (λv H'=>v=.text/\X C H') X
 | .kA b C v,ρ,H,Q,_=>bO b ρ H Q λC' H'=>T.sub C' C=true/\∀ew,Q (.ret v) ew H'
 | .iw b C C2,ρ,H,Q,X=>bO b ρ H Q λC' H'=>T.sub C' C=true/\X C2 H'
 | .bad,_,_,_,_=>False
def bO:List S->Loc->Hp->(Fl->Loc->Hp->Prop)->(Addr->Hp->Prop)->Prop
 |[],ρ,H,Q,_=>Q .next ρ H
 |s::ss,ρ,H,Q,X=>wpS s ρ H (λfl ew H'=>match fl with| .next=>bO ss ew H' Q X|fl=>Q fl ew H') X
end
end
end
noncomputable def Kl:Ff->Nat×Nat×Nat
 | .fn a=>(0,a,0)
 | .cls a b=>(1,a,b)
 | .len=>(2,0,0)
 | .bytes=>(3,0,0)
 | .cZ=>(4,0,0)
 | .sorted=>(5,0,0)
 | .tuple=>(6,0,0)
 | .list=>(7,0,0)
 | .sum=>(8,0,0)
 | .min=>(9,0,0)
noncomputable def Yy(p:Nat×Nat×Nat):Ff:=match p.1 with
 |0=>.fn p.2.1
 |1=>.cls p.2.1 p.2.2
 |2=>.len
 |3=>.bytes
 |4=>.cZ
 |5=>.sorted
 |6=>.tuple
 |7=>.list
 |8=>.sum
 |_=>.min
theorem EW(c:Ff):Yy (Kl c)=c:=by induction c using Ff.casesOn<;>rfl
def Mx:Option GE->Ff->Bool
 |some (.call c),d=>decide (Kl c=Kl d)
 |_,_=>false
theorem B3:Mx g c=true->g=some (.call c):=by
 induction g using tT with
 |none=>exact λh=>Bool.noConfusion h
 |some g=>
  induction g using GE.casesOn with
  |call d=>exact λh=>by refine' c_ (EW d) ?_;refine' aj (of_decide_eq_true h) ?_;rw[EW]
  |_=>exact λh=>Bool.noConfusion h
noncomputable def HN:Option GE->Int->Bool
 |some (.int c),d=>c==d
 |_,_=>false
theorem D7:HN g c=true->g=some (.int c):=by
 induction g using tT with
 |none=>exact λh=>Bool.noConfusion h
 |some g=>
  induction g using GE.casesOn with
  |int d=>exact λh=>by refine' aj (beq_iff_eq.mp h) ?_;rfl
  |_=>exact λh=>Bool.noConfusion h
noncomputable def DQ:Option GE->Addr->Bool
 |some (.exc c),d=>c==d
 |_,_=>false
theorem vJ:DQ g c=true->g=some (.exc c):=by
 induction g using tT with
 |none=>exact λh=>Bool.noConfusion h
 |some g=>
  induction g using GE.casesOn with
  |exc d=>exact λh=>by refine' aj (beq_iff_eq.mp h) ?_;rfl
  |_=>exact λh=>Bool.noConfusion h
noncomputable def Ii:Option GE->Bool
 |some .nk=>true
 |_=>false
theorem wN:Ii g=true->g=some .nk:=by
 induction g using tT with
 |none=>exact λh=>Bool.noConfusion h
 |some g=>
  induction g using GE.casesOn with
  |nk=>exact λ_=>rfl
  |_=>exact λh=>Bool.noConfusion h
noncomputable def Y8:V->Bool
 | .none=>true
 | .bool _=>true
 | .int _=>true
 | .bytes _=>true
 |_=>false
noncomputable def EF:V->Const
 | .bool b=>.bool b
 | .int i=>.int i
 | .bytes b=>.bytes b
 |_=>.none
noncomputable def intOf:V->Int
 | .int i=>i
 |_=>0
noncomputable def isInt:V->Bool
 | .int _=>true
 |_=>false
noncomputable def abX:B9->Bool
 | .MatMult| .Div| .BitXor=>false
 |_=>true
noncomputable def Hs:CmpOp->Bool
 | .Is| .IsNot| .In| .NotIn=>false
 |_=>true
noncomputable def wm:dh->Bool
 | .Call f as ks _=>!(ic f.ctorIdx 23&&(as.isEmpty&&ks.isEmpty))
 |_=>true
noncomputable def rV(e:dh):Bool:=!Nat.beq e.ctorIdx 26
noncomputable def di(N:dH):List (Str×dz)->dH
 |[]=>[]
 |(x,.local)::r=>if x==(".0":Str) then di N r else(x,.loc,1000)::di N r
 |(x,.free)::r=>(match N.lookup x with|some (_,i)=>(x,.ro,i)::di N r|none=>di N r)
 |_::r=>di N r
noncomputable def kdOf:Kd->dz
 | .loc=>.local
 | .cell=>.cell
 | .ro=>.cell
def Ej(N:dH)(sc:List (Str×dz)):Bool:=
 (N.all λp=>sc.lookup p.1==some (kdOf p.2.1) &&!(p.1==("__classdict__":Str))) &&N.all λp=>N.all λq=>(p.1==q.1) ==(p.2.2==q.2.2) &&((p.2.2 !=q.2.2) ||(match p.2.1,q.2.1 with| .loc,.loc| .cell,.cell| .ro,.ro=>true|_,_=>false))
noncomputable def mV(names:List (Str×dz)):List (Str×dz):=names.map λy=>(y.1,if y.2== .free then .cell else y.2)
noncomputable def LD(N:dH)(x:Str)(names:List (Str×dz)):Bool:=
 names.all (λy=>match y.2 with
  | .local=>y.1==(".0":Str) ||y.1==x
  | .free=>(match N.lookup y.1 with|some (.cell,_)=>true|_=>false)
  | .cell=>false
  | .globalExplicit=>false
  | .globalImplicit=>true) &&names.lookup x==some .local&&(names.all λy=>y.2 !=.local||names.lookup y.1==some .local) &&x !=(".0":Str)
noncomputable def HB:dh->Bool
 | .Call .. =>true
 |_=>false
noncomputable def qg(e:dh):Bool:=!Nat.beq e.ctorIdx 8
noncomputable def mW(e:dh):Bool:=!(ic e.ctorIdx 22||(ic e.ctorIdx 7||(ic e.ctorIdx 9||ic e.ctorIdx 10)))
noncomputable def o1{α:Type}(f:α->Bool):Option α->Bool
 |some x=>f x
 |none=>false
theorem MY:∀{l:Option α},o1 f l=true->∃x,l=some x/\f x=true
 |some x,h=>⟨x,rfl,h⟩
noncomputable def qw(sc:List (Str×dz))(p:Option GE->Bool)(T:lS)(x:Str):Bool:=x !=("__debug__":Str) &&(sc.lookup x==some .globalImplicit&&p (T.glob x))
theorem iY(h:qw sc p T x=true):(x !=("__debug__":Str))=true/\(sc.lookup x==some .globalImplicit)=true/\p (T.glob x)=true:=
 have a:=ag.mp h
 ⟨a.1,ag.mp a.2⟩
def DK(N:dH)(i:Nat)(x:Str):Bool:=x !=("__debug__":Str) &&o1 (λp=>i==p.2) (N.lookup x)
theorem zD(h:DK N i x=true):(x !=("__debug__":Str))=true/\∃k,N.lookup x=some (k,i):=by
 have a:=ag.mp h;erw[ay (MY a.2),(p e q),<-⟨a.1,p.1,by erw[aj e,aj (beq_iff_eq.mp q)];rfl⟩]
noncomputable def aaZ:Kd->Bool
 | .ro=>true
 |_=>false
noncomputable def QE:Kd->Bool
 | .loc=>true
 |_=>false
def KI(N:dH)(i:Nat)(x:Str):Bool:=o1 (λp=>!aaZ p.1&&i==p.2) (N.lookup x)
theorem DZ(h:KI N i x=true):∃k,N.lookup x=some (k,i)/\k≠.ro:=by
 erw[ay (MY h),(a e q)];rcases a with⟨k,j⟩
 have q:=ag.mp q;exact⟨k,by erw[aj e,aj (beq_iff_eq.mp q.2)];rfl,λz=>by subst z;cases q.1⟩
def EA(N:dH)(i:Nat)(x:Str):Bool:=o1 (λp=>QE p.1&&i==p.2) (N.lookup x)
theorem J3(h:QE k=true):k=.loc:=by induction k using Kd.casesOn<;>first|rfl|cases h
theorem wb(h:EA N i x=true):N.lookup x=some (.loc,i):=by
 erw[ay (MY h),(a e q)];rcases a with⟨k,j⟩
 have q:=ag.mp q
 obtain rfl:k=.loc:=J3 q.1
 erw[aj e,aj (beq_iff_eq.mp q.2)];rfl
noncomputable def p0:Pos:=⟨0,0,0,0⟩
def x0:dh:=.Name "" p0
structure VE where
 n:Str:= ""
 p:Pos:=p0
 a:dh:=x0
 b:dh:=x0
 c:dh:=x0
 l:List dh:=[]
 k:Nat:=0
 lo:Option dh:=none
 hi:Option dh:=none
 sc:Scope:=default
 g:tM:=⟨x0,x0,[],0⟩
 t:Nat:=0
noncomputable def cStr:Const->Str
 | .str x=>x
 |_=> ""
def hdG:List tM->tM
 |g::_=>g
 |[]=>⟨x0,x0,[],0⟩
def vE(x:dh):VE:=@PySem.Expr.casesOn (λ_=>VE) x (λ_ l p=>{l,p}) (λ_ _ _=>{}) (λa _ b p=>{a,b,p}) (λ_ a p=>{a,p,t:=2}) (λ_ _ _ _=>{}) (λa b c p=>{a,b,c,p}) (λ_ _ _=>{}) (λ_ _ _=>{}) (λa g sc p=>{a,g:=hdG g,sc,p}) (λ_ _ _ _=>{}) (λ_ _ _ _ _=>{}) (λ_ _ _ _=>{}) (λ_ _=>{}) (λ_ _=>{}) (λ_ _=>{}) (λa _ l p=>{a,l,p}) (λa l _ p=>{a,l,p}) (λa _ _ p=>{a,p}) (λl p=>{l,p,t:=4}) (λc k p=>{n:=cStr c,k,p,t:=3}) (λa _ p=>{a,p}) (λa b p=>{a,b,p}) (λ_ _=>{}) (λn p=>{n,p,t:=1}) (λl p=>{l,p}) (λl k p=>{l,k,p}) (λlo hi _ p=>{lo,hi,p})
def zj(x:dh):Str:=(vE x).n
def eY(x:dh):Pos:=(vE x).p
def s1(x:dh):dh:=(vE x).a
def s2(x:dh):dh:=(vE x).b
def s3(x:dh):dh:=(vE x).c
def oP(x:dh):List dh:=(vE x).l
def kE(x:dh):Nat:=(vE x).k
def Jr(x:dh):Str:=(vE x).n
def loE(x:dh):Option dh:=(vE x).lo
def hiE(x:dh):Option dh:=(vE x).hi
def zg(x:dh):Scope:=(vE x).sc
def pJ(x:dh):tM:=(vE x).g
def isNm(x:dh):Bool:=ic (vE x).t 1
def Jj(x:dh):Bool:=ic (vE x).t 2
def wH(x:dh):Bool:=ic (vE x).t 3
def ji(x:dh):Bool:=ic (vE x).t 4
def yo(l:List dh):dh:=l.headD x0
def pk(x:dh):dh:=.Name (zj x) (eY x)
def toStr(x:dh):dh:=.Constant (.str (Jr x)) (kE x) (eY x)
def Ek:Nat->List dh->List dh
 |_,[]=>[]
 |k,p::ps=>if wH p=true then toStr p::Ek k ps else(match k with
   |0=>[]
   |k+1=>.FormattedValue (pk (s1 p)) (-1) none (eY p)::Ek k ps)
def uF(v:V)(x:dh):dh:=
 if isNm x=true then pk x else if Jj x=true then .UnaryOp .USub (.Constant (.int (-(intOf v))) (kE (s1 x)) (eY (s1 x))) (eY x) else .Constant (EF v) (kE x) (eY x)
mutual
def ja:E->dh->dh
 | .cst v,x=>uF v x
 | .loc _,x=>pk x
 | .and ms,x=>.BoolOp .And (vI ms (oP x)) (eY x)
 | .or ms,x=>.BoolOp .Or (vI ms (oP x)) (eY x)
 | .not m,x=>.UnaryOp .Not (ja m (s1 x)) (eY x)
 | .ite c a b,x=>.IfExp (ja c (s1 x)) (ja a (s2 x)) (ja b (s3 x)) (eY x)
 | .bin op a b,x=>.BinOp (ja a (s1 x)) op (ja b (s2 x)) (eY x)
 | .cmp op a b,x=>.Compare (ja a (s1 x)) [op] [ja b (yo (oP x))] (eY x)
 | .qG a neg,x=>.Compare (ja a (s1 x)) [if neg then .IsNot else .Is] [.Constant .none (kE (yo (oP x))) (eY (yo (oP x)))] (eY x)
 | .attr o k,x=>.Attribute (ja o (s1 x)) (atName k) (eY x)
 | .sub o i,x=>.Subscript (ja o (s1 x)) (ja i (s2 x)) (eY x)
 | .A0 o lo hi,x=>.Subscript (ja o (s1 x)) (.Slice (toO lo (loE (s2 x))) (toO hi (hiE (s2 x))) none (eY (s2 x))) (eY x)
 | .tup ms,x=>.Tuple (vI ms (oP x)) (kE x) (eY x)
 | .lst ms,x=>.List (vI ms (oP x)) (eY x)
 | .bp o m ms,x=>.Call (.Attribute (ja o (s1 (s1 x))) (zU m) (eY (s1 x))) (vI ms (oP x)) [] (eY x)
 | .call _ ms,x=>.Call (pk (s1 x)) (vI ms (oP x)) [] (eY x)
 | .j6 elt hi,x=>.ListComp (ja elt (s1 x)) [⟨pk (pJ x).target,.Call (pk (s1 (pJ x).iter)) [ja hi (yo (oP (pJ x).iter))] [] (eY (pJ x).iter),[],0⟩] (zg x) (eY x)
 | .comp elt it c,x=>.ListComp (ja elt (s1 x)) [⟨pk (pJ x).target,ja it (pJ x).iter,toC c (pJ x).ifs,0⟩] (zg x) (eY x)
 | .text ms,x=>if ji x=true then .JoinedStr (Ek ms.length (oP x)) (eY x) else(match ms with
   |m::_=>.BinOp (.Constant (.str ("no command is of kind %d":Str)) (kE (s1 x)) (eY (s1 x))) .Mod (ja m (s2 x)) (eY x)
   |[]=>toStr x)
 | .JO,x=>.Subscript (pk (s1 x)) (.Slice none (some (.Constant (.int 24) (kE ((hiE (s2 x)).getD x0)) (eY ((hiE (s2 x)).getD x0)))) none (eY (s2 x))) (eY x)
def vI:List E->List dh->List dh
 |[],_=>[]
 |m::ms,xs=>ja m (yo xs)::vI ms xs.tail
def toO:Option E->Option dh->Option dh
 |none,_=>none
 |some m,x=>some (ja m (x.getD x0))
def toC:Option E->List dh->List dh
 |none,_=>[]
 |some m,xs=>[ja m (yo xs)]
end
section
variable(T:lS)
def UB(N:dH)(sc:List (Str×dz))(x:Str):E->Bool
 | .loc i=>DK N i x
 | .cst v=>isInt v&&qw sc (HN · (intOf v)) T x
 |_=>false
def NW(N:dH)(sc:List (Str×dz)):List E->List dh->Bool
 |ms,[]=>ms.isEmpty
 |ms,p::ps=>if wH p=true then decide ((Jr p).length<=1000) &&NW N sc ms ps else(match ms with
   |[]=>false
   |m::ms=>UB T N sc (zj (s1 p)) m&&NW N sc ms ps)
def LN(sc:List (Str×dz))(v:V)(x:dh):Bool:=
 if isNm x=true then isInt v&&qw sc (HN · (intOf v)) T (zj x) else if Jj x=true then isInt v else Y8 v
def S_(N:dH)(x:dh):Bool:=(zg x).kind== .function&&(LD N (zj (pJ x).target) (zg x).names&&Ej (di N (zg x).names) (mV (zg x).names))
mutual
def kG(N:dH)(sc:List (Str×dz)):E->dh->Bool
 | .cst v,x=>LN T sc v x
 | .loc i,x=>DK N i (zj x)
 | .and ms,x=>y4 N sc ms (oP x)
 | .or ms,x=>y4 N sc ms (oP x)
 | .not m,x=>kG N sc m (s1 x)
 | .ite c a b,x=>kG N sc c (s1 x) &&(kG N sc a (s2 x) &&kG N sc b (s3 x))
 | .bin op a b,x=>abX op&&(kG N sc a (s1 x) &&kG N sc b (s2 x))
 | .cmp op a b,x=>Hs op&&(kG N sc a (s1 x) &&kG N sc b (yo (oP x)))
 | .qG a _,x=>kG N sc a (s1 x)
 | .attr o k,x=>decide (k<27) &&(wm (ja o (s1 x)) &&kG N sc o (s1 x))
 | .sub o i,x=>rV (ja i (s2 x)) &&(kG N sc o (s1 x) &&kG N sc i (s2 x))
 | .A0 o lo hi,x=>kG N sc o (s1 x) &&(okO N sc lo (loE (s2 x)) &&okO N sc hi (hiE (s2 x)))
 | .tup ms,x=>y4 N sc ms (oP x)
 | .lst ms,x=>y4 N sc ms (oP x)
 | .bp o m ms,x=>(eY (s1 x)).endLine==(eY x).line&&(decide (m<18) &&(wm (ja o (s1 (s1 x))) &&(decide ((vI ms (oP x)).length<20) &&(kG N sc o (s1 (s1 x)) &&y4 N sc ms (oP x)))))
 | .call c ms,x=>qw sc (Mx · c) T (zj (s1 x)) &&(decide ((vI ms (oP x)).length<20) &&y4 N sc ms (oP x))
 | .j6 elt hi,x=>S_ N x&&(qw sc Ii T (zj (s1 (pJ x).iter)) &&(kG N sc hi (yo (oP (pJ x).iter)) &&kG (di N (zg x).names) (mV (zg x).names) elt (s1 x)))
 | .comp elt it c,x=>S_ N x&&(kG N sc it (pJ x).iter&&(okC (di N (zg x).names) (mV (zg x).names) c (pJ x).ifs&&kG (di N (zg x).names) (mV (zg x).names) elt (s1 x)))
 | .text ms,x=>if ji x=true then decide (2<=(Ek ms.length (oP x)).length) &&(decide ((oP x).length<=8) &&NW T N sc ms (oP x)) else(match ms with
   |m::ms=>ms.isEmpty&&kG N sc m (s2 x)
   |[]=>decide ((Jr x).length<=1000))
 | .JO,x=>DK N 0 (zj (s1 x))
def y4(N:dH)(sc:List (Str×dz)):List E->List dh->Bool
 |[],_=>true
 |m::ms,xs=>kG N sc m (yo xs) &&y4 N sc ms xs.tail
def okO(N:dH)(sc:List (Str×dz)):Option E->Option dh->Bool
 |none,_=>true
 |some m,x=>kG N sc m (x.getD x0)
def okC(N:dH)(sc:List (Str×dz)):Option E->List dh->Bool
 |none,_=>true
 |some m,xs=>kG N sc m (yo xs)
end
end
theorem tE(m:E)(x:dh):mW (ja m x)=true:=by
 induction m using E.casesOn with
 |cst v=>
  show mW (uF v x)=true;unfold uF;cases isNm x
  ·cases Jj x<;>rfl
  ·rfl
 |text a=>
  induction a using lcs with
  |nil=>
   show mW (if ji x=true then .JoinedStr _ _ else toStr x)=true;cases ji x<;>rfl
  |cons m a=>
   show mW (if ji x=true then .JoinedStr _ _ else .BinOp _ _ _ _)=true;cases ji x<;>rfl
 |_=>rfl
structure VS where
 p:Pos:=p0
 e:dh:=x0
 t:dh:=x0
 b:List jz:=[]
 c:List jz:=[]
 h:ke:=.ExceptHandler none none [] p0
def hdH:List ke->ke
 |h::_=>h
 |[]=>.ExceptHandler none none [] p0
def vS(x:jz):VS:=@PySem.Stmt.casesOn (λ_=>VS) x (λ_ _ _ _ _ _ _ _ _ _=>{}) (λ_ _ _ _ _ _ _ _ _ _=>{}) (λ_ _ _ _ _ _ _ _ _ _ _=>{}) (λe p=>{e:=e.getD x0,p}) (λ_ _=>{}) (λt e p=>{t:=yo t,e,p}) (λ_ _ _ _ _ _ _=>{}) (λt _ e p=>{t,e,p}) (λ_ _ _ _ _=>{}) (λt e b _ p=>{t,e,b,p}) (λ_ _ _ _ _=>{}) (λe b _ p=>{e,b,p}) (λe b c p=>{e,b,c,p}) (λ_ _ _=>{}) (λ_ _ _=>{}) (λ_ _ _=>{}) (λe _ p=>{e:=e.getD x0,p}) (λb h _ _ p=>{b,h:=hdH h,p}) (λ_ _ _ _ _=>{}) (λ_ _ _=>{}) (λ_ _=>{}) (λ_ _ _ _=>{}) (λ_ _=>{}) (λ_ _=>{}) (λe p=>{e,p}) (λp=>{p}) (λp=>{p}) (λ_=>{})
def pA(s:jz):Pos:=(vS s).p
def eS(s:jz):dh:=(vS s).e
def tS(s:jz):dh:=(vS s).t
def bS(s:jz):List jz:=(vS s).b
def cS(s:jz):List jz:=(vS s).c
def hS(s:jz):ke:=(vS s).h
def htE:ke->dh
 | .ExceptHandler (some t) _ _ _=>t
 |_=>x0
noncomputable def hpE:ke->Pos
 | .ExceptHandler _ _ _ p=>p
def PM:ke->jz
 | .ExceptHandler _ _ (s::_) _=>s
 |_=>.Pass p0
def hdS(l:List jz):jz:=l.headD (.Pass p0)
def Au:List Nat->List dh->List dh
 |[],_=>[]
 |_::is,xs=>pk (yo xs)::Au is xs.tail
def Nw(N:dH):List Nat->List dh->Bool
 |[],_=>true
 |i::is,xs=>EA N i (zj (yo xs)) &&Nw N is xs.tail
mutual
def toS:S->jz->jz
 | .expr m,s=>.Expr (ja m (eS s)) (pA s)
 | .bq _ m,s=>.Assign [pk (tS s)] (ja m (eS s)) (pA s)
 | .cD o k m,s=>.Assign [.Attribute (ja o (s1 (tS s))) (atName k) (eY (tS s))] (ja m (eS s)) (pA s)
 | .hK o i m,s=>.Assign [.Subscript (ja o (s1 (tS s))) (ja i (s2 (tS s))) (eY (tS s))] (ja m (eS s)) (pA s)
 | .zB is m,s=>.Assign [.Tuple (Au is (oP (tS s))) (kE (tS s)) (eY (tS s))] (ja m (eS s)) (pA s)
 | .pj _ op m,s=>.AugAssign (pk (tS s)) op (ja m (eS s)) (pA s)
 | .Dk o k op m,s=>.AugAssign (.Attribute (ja o (s1 (tS s))) (atName k) (eY (tS s))) op (ja m (eS s)) (pA s)
 | .dm t a b,s=>.If (ja t (eS s)) (yW a (bS s)) (yW b (cS s)) (pA s)
 | .oK t b,s=>.While (ja t (eS s)) (yW b (bS s)) [] (pA s)
 | .q7 _ e b,s=>.For (pk (tS s)) (ja e (eS s)) (yW b (bS s)) [] (pA s)
 | .forR _ lo hi b,s=>.For (pk (tS s)) (.Call (pk (s1 (eS s))) (match lo with
   |none=>[ja hi (yo (oP (eS s)))]
   |some lo=>[ja lo (yo (oP (eS s))),ja hi (yo (oP (eS s)).tail)]) [] (eY (eS s))) (yW b (bS s)) [] (pA s)
 | .ret none,s=>.Return none (pA s)
 | .ret (some m),s=>.Return (some (ja m (eS s))) (pA s)
 | .brk,s=>.Break (pA s)
 | .pass,s=>.Pass (pA s)
 | .raise _ m,s=>.Raise (some (.Call (pk (s1 (eS s))) [ja m (yo (oP (eS s)))] [] (eY (eS s)))) none (pA s)
 | .kA b _ v,s=>.Try (yW b (bS s)) [.ExceptHandler (some (pk (htE (hS s)))) none [.Return (some (.Constant (EF v) (kE (eS (PM (hS s)))) (eY (eS (PM (hS s)))))) (pA (PM (hS s)))] (hpE (hS s))] [] [] (pA s)
 | .iw b _ _,s=>.Try (yW b (bS s)) [.ExceptHandler (some (pk (htE (hS s)))) none [.Raise (some (.Call (pk (s1 (eS (PM (hS s))))) [toStr (yo (oP (eS (PM (hS s)))))] [] (eY (eS (PM (hS s)))))) none (pA (PM (hS s)))] (hpE (hS s))] [] [] (pA s)
 | .bad,s=>s
def yW:List S->List jz->List jz
 |[],_=>[]
 |m::ms,xs=>toS m (hdS xs)::yW ms xs.tail
end
noncomputable def DI:B9->Bool
 | .Add=>true
 | .RShift=>true
 | .BitOr=>true
 |_=>false
section
variable(T:lS)(cj:Addr)
mutual
def okS(N:dH)(sc:List (Str×dz)):Bool->S->jz->Bool
 |_,.expr m,s=>qg (ja m (eS s)) &&kG T N sc m (eS s)
 |_,.bq i m,s=>KI N i (zj (tS s)) &&kG T N sc m (eS s)
 |_,.cD o k m,s=>decide (k<27) &&(kG T N sc o (s1 (tS s)) &&kG T N sc m (eS s))
 |_,.hK o i m,s=>rV (ja i (s2 (tS s))) &&(kG T N sc o (s1 (tS s)) &&(kG T N sc i (s2 (tS s)) &&kG T N sc m (eS s)))
 |_,.zB is m,s=>HB (ja m (eS s)) &&(Nw N is (oP (tS s)) &&kG T N sc m (eS s))
 |_,.pj i op m,s=>DI op&&(KI N i (zj (tS s)) &&kG T N sc m (eS s))
 |_,.Dk o k op m,s=>DI op&&(decide (k<27) &&(kG T N sc o (s1 (tS s)) &&kG T N sc m (eS s)))
 |t,.dm e a b,s=>kG T N sc e (eS s) &&(yZ N sc t a (bS s) &&yZ N sc t b (cS s))
 |_,.oK e b,s=>kG T N sc e (eS s) &&yZ N sc false b (bS s)
 |_,.q7 i e b,s=>EA N i (zj (tS s)) &&(kG T N sc e (eS s) &&yZ N sc false b (bS s))
 |_,.forR i lo hi b,s=>EA N i (zj (tS s)) &&(qw sc Ii T (zj (s1 (eS s))) &&((match lo with
   |none=>kG T N sc hi (yo (oP (eS s)))
   |some lo=>kG T N sc lo (yo (oP (eS s))) &&kG T N sc hi (yo (oP (eS s)).tail)) &&yZ N sc false b (bS s)))
 |_,.ret none,_=>true
 |_,.ret (some m),s=>kG T N sc m (eS s)
 |_,.brk,_=>true
 |_,.pass,_=>true
 |t,.raise C m,s=>t&&(qw sc (DQ · C) T (zj (s1 (eS s))) &&kG T N sc m (yo (oP (eS s))))
 |_,.kA b C v,s=>qw sc (DQ · C) T (zj (htE (hS s))) &&(Y8 v&&yZ N sc false b (bS s))
 |_,.iw b C C2,s=>(C !=cj&&C2==cj) &&(qw sc (DQ · C) T (zj (htE (hS s))) &&(qw sc (DQ · C2) T (zj (s1 (eS (PM (hS s))))) &&(decide ((Jr (yo (oP (eS (PM (hS s)))))).length<=1000) &&yZ N sc false b (bS s))))
 |_,.bad,_=>true
def yZ(N:dH)(sc:List (Str×dz)):Bool->List S->List jz->Bool
 |_,[],_=>true
 |t,m::ms,xs=>okS N sc t m (hdS xs) &&yZ N sc t ms xs.tail
end
end
variable{N:dH}
def PV(K:fg)(N:dH)(au:mq)(ρ:Loc)(B:Heap)(ak:List (Addr×Obj))(os:bL)(Q:V->Hp->Prop)(v:Value)(s':Shared):Prop:=
 ∃x H',c9 s'.heap v x/\Q x H'/\Sat K N au ρ B ak os H' s'
def PB(K:fg)(N:dH)(au:mq)(ρ:Loc)(B:Heap)(ak:List (Addr×Obj))(os:bL)(Q:Bool->Hp->Prop)(b:Bool)(s':Shared):Prop:=
 ∃H',Q b H'/\Sat K N au ρ B ak os H' s'
theorem PV.int(S:Sat K N au ρ B ak os H s)(q:Q (.int i) H):PV K N au ρ B ak os Q (.int i t) {s with toks:=u}:=⟨_,H,.int i t,q,S.tok u⟩
theorem PV.bool(S:Sat K N au ρ B ak os H s)(q:Q (.bool b) H):PV K N au ρ B ak os Q (.bool b) s:=⟨_,H,.bool b,q,S⟩
theorem PV.bytes(S:Sat K N au ρ B ak os H s)(q:Q (.bytes b) H):PV K N au ρ B ak os Q (.bytes b.toArray t) {s with toks:=u}:=⟨_,H,by simpa using c9.bytes b.toArray t,q,S.tok u⟩
theorem Lj(d:big a)(c:big b):IntMulOk a b:=by
 unfold IntMulOk;have h:∀{x:Int},big x->fY x<=400:=λ{x} hx=>by
  unfold fY
  split
  ·exact hX _
  ·rename_i si;have h0:x.natAbs≠0:=λq=>si (by simp[Int.natAbs_eq_zero.mp q]);exact(Bt h0).mpr hx
 have h1:=h d;have h2:=h c;have:Bu (fY a+fY b)=false:=by
  unfold Bu;have:¬((fY a:Int)+fY b>bitsLine):=by unfold bitsLine;exact λz=>Gp [(av,zn 400),(aW,zn 400),(zs (zn 134217728),zp av aW)] rt h1 h2 (bb.mp z)
  simpa using this
 erw[aj this];simp
theorem GJ(h:big b):Builtin.divisionGoesByPylong a b=false:=by
 erw[PyProof.noPylong_of_log2]
 by_cases h0:b.natAbs=0
 ·erw[aj h0];decide
 ·have:=(Bt h0).mpr h;exact PZ this rfl
theorem Sat.fresh(S:Sat K N au ρ B ak os H s):H s.heap.objs.size=none:=by
 cases e:H s.heap.objs.size with
 |none=>rfl
 |some m=>
  erw[ay ((S.h.rel.obj _ _ e).pf),(o a _),<-absurd (eO a) (iD _)]
theorem none_at_size(h:Heap):h.get? h.objs.size=none:=by
 cases e:h.get? h.objs.size with
 |none=>rfl
 |some o=>exact absurd (eO e) (iD _)
theorem ki.new(R:ki G H h)(k:∀b o,h.get? b=some o->h'.get? b=some o)(j:h.get? c=none)(p:eu (some mo)=false)(n:t_ G h' c mo):ki G (upd H c mo) h':=by
 have i:=R.keep (jt.of_keeps k) (λ_ _=>id) (λ_ _ _=>id);have r:H c=none:=by
  cases e:H c with
  |none=>rfl
  |some m=>refine ay ((R.obj _ _ e).pf) ?_;intro o q _;rw[j] at q;injection q
 have inst:∀x,eu (upd H c mo x)=true->eu (H x)=true/\x≠c:=λx f=>by
  by_cases e:x=c
  ·subst e;rw[cY,p] at f;injection f
  ·rw[dp _ _ e] at f;exact⟨f,e⟩
 refine⟨λa m e=>?_,λx y d f l=>i.inj x y d (inst x f).1 (inst y l).1,λx d f g=>?_⟩
 ·by_cases q:a=c
  ·subst q;rw[cY] at e;injection e with e;subst e;exact n
  ·rw[dp _ _ q] at e;exact i.obj a m e
 ·have h1:=i.off x d (inst x f).1 g
  by_cases q:d=c
  ·subst q;exfalso;have e:=R.pH (S:=λ_=>False) (jt.of_keeps k) (eT (inst x f).1) id;rw[e] at g;erw[ay (R.own (.inr ⟨x,(inst x f).1,g⟩)),(o q _)];rw[j] at q;injection q
  ·erw[aj (dp _ _ q),<-h1]
theorem FP.Fp(R:ki G H h)(k:∀b o,h.get? b=some o->h'.get? b=some o)(i:eu (some mo)=false)(j:h.get? c=none)(f:FP (upd H c mo) h' a):a=c\/FP H h a:=by
 rcases f with f|⟨x,d,g⟩
 ·by_cases e:a=c
  ·exact .inl e
  ·rw[dp _ _ e] at f;exact .inr (.inl f)
 ·by_cases e:x=c
  ·subst e;rw[cY,i] at d;injection d
  ·rw[dp _ _ e] at d;have q:=R.pH (S:=λ_=>False) (jt.of_keeps k) (eT d) id;rw[q] at g;exact .inr (.inr ⟨x,d,g⟩)
theorem gV.new(S:gV K B ak os H s)(k:∀b o,s.heap.get? b=some o->s'.heap.get? b=some o)(h:s.heap.get? c=none)(j:eu (some mo)=false)(n:t_ (rP K) s'.heap c mo)(l:s'.gens=#[])(E:s'.os=os):gV K B ak os (upd H c mo) s':=by
 have m:=S.grow k l E;refine⟨S.st,m.stays,S.rel.new k h j n,λa f=>?_,λp i=>?_,l,E⟩
 ·rcases FP.Fp S.rel k j h f with rfl|f
  ·exact dF S.stays h
  ·exact S.nO a f
 ·erw[dX (m.ak p i),(a b d e),<-⟨a,λf=>?_,d,e⟩];rcases FP.Fp S.rel k j h f with q|f
  ·erw[bf ((S.ak p i).2.2.2),(sl g)];rw[q,h] at g;injection g
  ·exact(S.ak p i).2.1 f
theorem Sat.new(S:Sat K N au ρ B ak os H s)(k:∀b o,s.heap.get? b=some o->s'.heap.get? b=some o)(d:s.heap.get? c=none)(l:eu (some mo)=false)(n:t_ (rP K) s'.heap c mo)(p:s'.gens=#[])(E:s'.os=os):Sat K N au ρ B ak os (upd H c mo) s':=by
 refine⟨S.h.new k d l n p E,S.f.keep (jt.of_keeps k) ((jt.of_keeps k).tup λ_ _ _=>id) (λ_ _=>id) λa o f=>?_⟩;rcases FP.Fp S.h.rel k l d f with rfl|f
 ·rcases o with rfl|⟨x,i,m,e⟩
  ·erw[ay S.f.ns,(_ q _),xN q,(o _ _ g _)];rw[d] at g;injection g
  ·erw[Cv (S.f.cell x i m),(r o j _ _ _ _ g _)];rw[e] at j;injection j with j;subst j;rw[d] at g;injection g
 ·exact S.f.Ax o f
theorem Cs(r:bU h aQ vs):t_ G (h.push {cls:=.type "list",data:=.seq aQ.toArray}) h.objs.size (.list vs):=
 ⟨aQ,⟨⟨_,dv _ rfl,rfl,_,rfl⟩,by unfold sG;erw[aj (dv _ rfl)];rfl⟩,r.mono λ_ _ t=>t.push _⟩
theorem Sat.newList(S:Sat K N au ρ B ak os H s)(r:bU s.heap aQ vs):Sat K N au ρ B ak os (upd H s.heap.objs.size (.list vs)) {s with heap:=s.heap.push {cls:=.type "list",data:=.seq aQ.toArray}}:=
 S.new (λ_ _ e=>bB _ e) (none_at_size _) rfl (Cs r) S.h.gens S.h.os
theorem PV.list(S:Sat K N au ρ B ak os H s)(r:bU s.heap aQ vs)(q:∀c,H c=none->Q (.ref c) (upd H c (.list vs))):
  PV K N au ρ B ak os Q (.ref s.heap.objs.size) {s with heap:=s.heap.push {cls:=.type "list",data:=.seq aQ.toArray}}:=⟨_,_,.ref _,q _ S.fresh,S.newList r⟩
theorem eR(S:Sat K N au ρ B ak os H s)(e:H a=some (.list vs)):∃b,s.heap.IsList a b.toArray/\bU s.heap b vs:=let⟨b,x,y⟩:=S.h.rel.obj a _ e;⟨b,x.1,y⟩
theorem RV(r:c9 s.heap va x)(S:Sat K N au ρ B ak os H s)(h:fJ x H λb=>Q b H):bP (model af w) A (truthy va) (PB K N au ρ B ak os Q) Ex s:=by
 cases r with
 |none=>exact truthy_none ⟨H,h,S⟩
 |bool b=>exact wpAny_truthy_bool ⟨H,h,S⟩
 |int i t=>exact truthy_int ⟨H,h,S⟩
 |bytes b t=>exact h.elim
 |text=>exact h.elim
 |tup=>exact h.elim
 |ref a=>
  erw[ay (f_ h),(v e h),ay (eR S e),(d hl c),<-wpAny_truthy_list hl (by simp;rw[c.length];exact o8 (ax.mpr h.1) (dc rfl)) ⟨H,?_,S.tok _⟩];have:(!d.toArray.isEmpty)=!v.isEmpty:=by cases c<;>simp
  erw[aj this,<-h.2]
theorem Jv(S:Sat K N au ρ B ak os H s)(h:b1.toList.length+b2.toList.length<=1000000/\Q (.bytes (b1.toList++b2.toList)) H):
  bP (model af w) A (binaryOp .Add (.bytes b1 t1) (.bytes b2 t2)) (PV K N au ρ B ak os Q) Ex s:=by
 rcases b1 with⟨l1⟩
 rcases b2 with⟨l2⟩
 exact bytes_add_K (by simp only[kJ];exact aH h.1 (dc rfl)) rfl λt k=>PV.bytes S h.2
theorem Jy(S:Sat K N au ρ B ak os H s)(h:b1.toList≠[]/\2<=i/\i<=1000/\b1.toList.length<=1000/\Q (.bytes (kK i.toNat b1.toList).flatten) H):
  bP (model af w) A (binaryOp .Mult (.bytes b1 t1) (.int i t2)) (PV K N au ρ B ak os Q) Ex s:=by
 rcases b1 with⟨l1⟩
 erw[iu h,(h1 h2 h3 h4 h5),<-bytes_mul_K h1 h2 (oG [(cN,yn 1000)] (cN,yn 1048576) rt h.2.2.1) ?_ rfl λt k=>PV.bytes S h5];have:=Nat.mul_le_mul (show l1.length<=1000 from h4) (ax.mp (oY [(cN,yn 1000),(dW,cN)] (dW,yn 1000) rt h.2.2.1 (aF (gQ (oG [(yn 2,cN)] (yn 0,cN) rt h.2.1)))));exact dK this rfl
theorem qI(q:wu x y f)(c:c9 h va x)(r:c9 h vb y):∃a b t u,va=.int a t/\vb=.int b u/\f a b:=by
 erw[df (Pj q),(a b i k q)];subst i;subst k;erw[bf c.inv,(t e1),bf r.inv,(u e2),<-⟨a,b,t,u,e1,e2,q⟩]
theorem BD(q:DE y f)(r:c9 h vb y):∃b u,vb=.int b u/\f b:=by
 erw[ay (HI q),(b p q)];subst p;erw[bf r.inv,(u e2),<-⟨b,u,e2,q⟩]
theorem Kx(S:Sat K N au ρ B ak os H s)(h:jV H a λxs=>jV H b λys=>xs.length+ys.length<=100000/\∀c,H c=none->Q (.ref c) (upd H c (.list (xs++ys)))):
  bP (model af w) A (binaryOp .Add (.ref a) (.ref b)) (PV K N au ρ B ak os Q) Ex s:=by
 erw[ay (f_ h),(xs e1 h),ay (f_ h),(ys e2 h),ay (eR S e1),(d l1 f),ay (eR S e2),(v l2 r)];have j:d.length+v.length<=ie:=by refine' aj f.length ?_;refine' aj r.length ?_;refine' aj sizeLine_eq ?_;have:=h.1;exact dJ [(av,zn 100000)] (av,zn 16777216) rt h.1
 erw[cX (id l1),(t g l x)];rcases t with⟨cls,dd,data,sl⟩
 erw[bf x,(n k),cX (id l2),(C P m E)];rcases C with⟨ab9,dd2,data2,WR⟩
 erw[bf E,(i e)];subst l;subst k;subst m;subst e;erw[<-concat_meets ⟨_,g,rfl⟩ ⟨_,P,rfl⟩ noFill_list_add seq_list_add PySem.F.slot_list_add PySem.F.entry_list_add (PySem.F.args_list_add_2 _ _) (list_addW a b d.toArray v.toArray n i dd dd2 sl WR (by simpa using j)) ⟨g,P,?_⟩,aj (show d.toArray++v.toArray=(d++v).toArray by simp),<-PV.list S (f.append r) h.2]
theorem aab(c:c9 s.heap va x)(r:c9 s.heap vb y)(S:Sat K N au ρ B ak os H s)(h:kv op x y H Q):bP (model af w) A (binaryOp op va vb) (PV K N au ρ B ak os Q) Ex s:=by
 induction op using Operator.casesOn with
 |Add=>
  induction x using V.casesOn with
  |int a=>
   erw[bf c.inv,(t M)];subst M;erw[dg (BD h r),(b u d h)];subst d;exact add_int (PV.int S h)
  |bytes a=>
   erw[dg c.inv,(f t z P)];subst z;subst P
   induction y using V.casesOn with
   |bytes b=>
    erw[dg r.inv,(W u O J)];subst O;subst J;exact Jv S h
   |_=>exact h.elim
  |ref a=>
   have e:=c.inv;subst e
   induction y using V.casesOn with
   |ref b=>
    have e:=r.inv;subst e;exact Kx S h
   |_=>exact h.elim
  |_=>exact h.elim
 |Sub=>refine kI (qI h c r) ?_;intro a b t u I F h;subst I;subst F;exact sub_int (PV.int S h)
 |Mult=>
  induction x using V.casesOn with
  |int a=>
   erw[bf c.inv,(t G)];subst G;erw[dg (BD h r),(b u D h)];subst D;exact mul_int (PV.int S h.2.2) (Lj h.1 h.2.1)
  |bytes a=>
   erw[dg c.inv,(f t E L)];subst E;subst L;erw[dg (BD h r),(b u o h)];subst o;exact Jy S h
  |_=>exact h.elim
 |FloorDiv=>refine kI (qI h c r) ?_;intro a b t u i n h;subst i;subst n;exact floordiv_int h.2.2.1 (PV.int S h.2.2.2) (.inl (GJ h.2.1))
 |Mod=>refine kI (qI h c r) ?_;intro a b t u T m h;subst T;subst m;exact mod_int h.1 (PV.int S h.2)
 |Pow=>refine kI (qI h c r) ?_;intro a b t u v q h;subst v;subst q;exact pow_int_small h.1 (by have:=h.2.1;exact zo2 h) h.2.2.1 (PV.int S h.2.2.2)
 |BitAnd=>refine kI (qI h c r) ?_;intro a b t u p l h;subst p;subst l;exact and_int (PV.int S h)
 |BitOr=>refine kI (qI h c r) ?_;intro a b t u U j h;subst U;subst j;exact or_int (PV.int S h)
 |LShift=>refine kI (qI h c r) ?_;intro a b t u g C h;subst g;subst C;exact lshift_int_small h.1 (by have:=h.2.1;exact zo2 h) h.2.2.1 (PV.int S h.2.2.2)
 |RShift=>refine kI (qI h c r) ?_;intro a b t u k R h;subst k;subst R;exact rshift_int h.1 (PV.int S h.2)
 |_=>exact h.elim
theorem all_true(l:List α):l.all (λ_=>true)=true:=by simp
theorem bU.at(h1:j<aQ.length)(h2:j<vs.length)(r:bU h aQ vs):c9 h aQ[j] vs[j]:=by
 erw[ay (r.get (bx h2)),(v e q)];rw[bx h1] at e;exact bV e▸q
open PySem.SeqAt in
theorem xI{n:Nat}{a vals2:List Value}{vs:List V}(r:bU s.heap a vs)(b:bU s.heap vals2 vs)(p:vs.all (plain n)=true)(i:∀{v u x},c9 s.heap v x->c9 s.heap u x->plain n x=true->EqAt A.in1 s v u true):∀j (h1:j<a.toArray.size) (h2:j<vals2.toArray.size),EqAt A.in1 s a.toArray[j] vals2.toArray[j] true:=by
 intro j h1 h2;have l1:=r.length;have h:j<vs.length:=by exact gF [(zs av,aW),(aW,bT)] (zs av,bT) rt h1 (aa l1)
 exact i (r.at h1 h) (b.at h2 h) (cJ.mp p _ (fL h))
open PySem.SeqAt in
theorem Ao:∀(n:Nat)(A:Around),A.units+n<cLine->∀{v u:Value} {x:V},c9 s.heap v x->c9 s.heap u x->plain n x=true->EqAt A s v u true:=by
 have f:∀A {v u:Value} {x:V},c9 s.heap v x->c9 s.heap u x->plain 0 x=true->EqAt A s v u true:=λA v u x r c p=>by
  induction x using V.casesOn with
  |none=>
   have e:=r.inv;have e2:=c.inv;erw[aj e,aj e2,<-EqAt.same _]
  |bool b=>
   have e:=r.inv;have e2:=c.inv;have:=EqAt.bool_bool (A:=A) (s:=s) b b;rw[beq_self_eq_true] at this;erw[aj e,aj e2,<-this]
  |int i=>
   erw[bf r.inv,(t E)];subst E;erw[bf c.inv,(j C)];subst C;have:=EqAt.int_int (A:=A) (s:=s) i t i j;rwa [beq_self_eq_true] at this
  |bytes b=>
   erw[dg r.inv,(K t z y)];subst z;subst y;erw[dg c.inv,(J j q D)];subst q;exact λaf w Ex Q h=>eqBool_bytes (by erw[c_ D];simpa using h)
  |_=>exact Bool.noConfusion p
 intro n
 induction n with
 |zero=>exact λA _ {_ _ _}=>f A
 |succ n B=>
  intro A l v u x r c p
  induction x using V.casesOn with
  |tup I=>
   erw[df r.inv,(a F m o g)];subst m;erw[df c.inv,(G vals2 H d X)];subst H
   by_cases k:a=G
   ·erw[aj k,<-EqAt.same _]
   ·have:=RcAt.tuples o d (gF [(zs (zp av aW),bT)] (zs av,bT) rt l) (xI g X p λr c p=>B A.in1 (by exact gF [(zs (zp av (zs aW)),bT)] (zs (zp (zs av) aW),bT) rt l) r c p);erw[EqAt.of_refs k];rw[all_true,E1] at this;have l1:=g.length;have l2:=X.length
    rwa [show(F.toArray.size==vals2.toArray.size)=true by simp;exact zo3 l1 l2] at this
  |none=>exact f A r c p
  |bool b=>exact f A r c p
  |int i=>exact f A r c p
  |bytes b=>exact f A r c p
  |_=>exact Bool.noConfusion p
theorem Nd(h:plain (n+1) (.tup vs)=true):vs.all (plain n)=true:=h
theorem eqS(d:A.units+20<cLine)(j:c9 s.heap va x)(i:c9 s.heap vb y)(S:Sat K N au ρ B ak os H s)(h:eqW x y H λb=>Q b H):
  bP (model af w) A (compareOp .Eq va vb) (λv s'=>∃b,v=.bool b/\PB K N au ρ B ak os Q b s') Ex s/\
  bP (model af w) A (compareOp .NotEq va vb) (λv s'=>∃b,v=.bool b/\PB K N au ρ B ak os Q (!b) s') Ex s:=by
 induction x using V.casesOn with
 |int a=>
  erw[bf j.inv,(t E)];subst E;erw[dg (BD h i),(b u I h)];subst I;exact⟨eq_int ⟨_,rfl,H,h,S⟩,ne_int ⟨_,rfl,H,by simpa[bne] using h,S⟩⟩
 |bytes a=>
  erw[dg j.inv,(C t n z)];subst n;subst z
  induction y using V.casesOn with
  |bytes b=>
   erw[dg i.inv,(o u L J)];subst L;subst J;have h:Q (C.toList==o.toList) H:=h;exact⟨eq_bytes ⟨_,rfl,H,h,S⟩,ne_bytes ⟨_,rfl,H,by simpa[bne] using h,S⟩⟩
  |_=>exact h.elim
 |tup a=>
  induction y using V.casesOn with
  |tup b=>
   erw[cA h,(e p q)];replace e:=e.symm;subst e;erw[df j.inv,(_ R F l k)];subst F;erw[df i.inv,(_ vals2 G f X)];subst G;have l1:=k.length;have l2:=X.length;have g:=xI k X (Nd p) λr c p=>Ao 8 A.in1 (by exact fe [(zs (zk av 20),aW)] (zs (zk (zs av) 8),aW) rt d) r c p;refine⟨PySem.SeqAt.eq_tupleAt l f (zo4 d) g ⟨_,rfl,H,?_,S⟩,PySem.SeqAt.RcNeAt.tuples l f (zo4 d) g af w Ex _ ⟨_,rfl,H,?_,S⟩⟩
   ·rw[all_true,E1];simpa[l1,l2] using q
   ·rw[all_true,E1];simpa[l1,l2] using q
  |_=>exact h.elim
 |ref a=>
  induction y using V.casesOn with
  |ref b=>
   have e:=j.inv;have e2:=i.inv;subst e;subst e2;erw[ay (f_ h),(M e1 h),fc (f_ h),(ys e2 D p q)];subst D;erw[ay (eR S e1),(P h1 m),ay (eR S e2),(O h2 c)];have l1:=m.length;have l2:=c.length;have g:=xI m c p λr c p=>Ao 9 A.in1 (by exact fe [(zs (zk av 20),aW)] (zs (zk (zs av) 9),aW) rt d) r c p;refine⟨PySem.SeqAt.eq_listAt h1 h2 (by simp;exact zo3 l1 l2) (zo4 d) g ⟨_,rfl,H,?_,S⟩,PySem.SeqAt.RcNeAt.lists h1 h2 (by simp;exact zo3 l1 l2) (zo4 d) g af w Ex _ ⟨_,rfl,H,?_,S⟩⟩
   ·rw[all_true];exact q
   ·rw[all_true];exact q
  |_=>exact h.elim
 |_=>exact h.elim
theorem Wd(d:A.units+20<cLine)(c:c9 s.heap va x)(r:c9 s.heap vb y)(S:Sat K N au ρ B ak os H s)(h:jF op x y H λb=>Q b H):
  bP (model af w) A (compareOp op va vb) (λv s'=>∃b,v=.bool b/\PB K N au ρ B ak os Q b s') Ex s:=by
 induction op using CmpOp.casesOn with
 |Eq=>exact(eqS d c r S h).1
 |NotEq=>
  erw[<-wpAny_mono (eqS (Q:=λb H=>Q (!b) H) d c r S h).2 (λv s' z=>?_) λ_ _ e=>e,ay z,(b e m),ay m,(n q j),<-⟨b,e,n,by simpa using q,j⟩]
 |Lt=>refine kI (qI h c r) ?_;intro a b t u k l h;subst k;subst l;exact lt_int ⟨_,rfl,H,h,S⟩
 |LtE=>refine kI (qI h c r) ?_;intro a b t u L i h;subst L;subst i;exact le_int ⟨_,rfl,H,h,S⟩
 |Gt=>refine kI (qI h c r) ?_;intro a b t u U g h;subst U;subst g;exact gt_int ⟨_,rfl,H,h,S⟩
 |GtE=>refine kI (qI h c r) ?_;intro a b t u T f h;subst T;subst f;exact ge_int ⟨_,rfl,H,h,S⟩
 |_=>exact h.elim
theorem Lg(r:c9 s.heap v (.tup vs)):∃a b,v=.ref a/\qX s.heap a b.toArray/\bU s.heap b vs:=by
 exact r.inv
theorem Md{l:List α}(h:l[k]?=some v):k<l.length:=(jg.mp h).1
theorem OB(h:KR vs i=some v)(h0:¬0<=i): -(vs.length:Int)<=i/\vs[(i+vs.length).toNat]?=some v:=by
 unfold KR at h;rw[if_neg h0] at h
 split at h
 ·exact⟨by assumption,h⟩
 ·injection h
theorem p_(h:rV slice=true)(o i:Value):subscripted slice false o i=operate [o,i] (getItem o i):=by
 induction slice using Expr.casesOn<;>first|rfl|cases h
theorem abD(y:rV slice=true)(p:c9 s.heap va x)(D:c9 s.heap vi i)(S:Sat K N au ρ B ak os H s)(h:AR x i H λu=>Q u H):
  bP (model af w) A (subscriptTail value slice va vi) (PV K N au ρ B ak os Q) Ex s:=by
 erw[dg (BD h D),(k t J h)];subst J
 induction x using V.casesOn with
 |ref a=>
  have e:=p.inv;subst e;erw[cX (f_ h),(n e f R),ay R,(v c q),ay (eR S e),(C hl r)];have o:=r.length;refine tail_any hl.typeIs B_.lookup ?_ (p_ y _ _)
  by_cases h0:0<=k
  ·unfold KR at c;rw[if_pos h0] at c;erw[ay (r.get c),(u d j)];have g:=Md c;exact wpAny_getItem_list hl h0 (zo5 g f) (by simpa using d) ⟨_,H,j,q,S⟩
  ·erw[aD (OB c h0),(m c),ay (r.get c),(u d j),<-wpAny_getItem_list_neg hl (oG [(ys cN,yn 0)] (ys cN,yn 0) rt (o9.mp h0)) (by simp only[kJ];rw[o];exact m) (n63 m f) ?_ ⟨_,H,j,q,S⟩,aj (show C.toArray.size=n.length by simpa using o)];simpa using d
 |tup n=>
  erw[cA h,(f h0 I),ay I,(v c q),df p.inv,(_ C G z r)];subst G;have o:=r.length;erw[ay (r.get c),(u d j)];have g:=Md c;erw[<-tail_any z.typeIs slot_tuple_getitem.lookup (getItem_tuple z (zw (dc rfl) h0) (zo5 g f) ?_ (by simpa using d) ⟨_,H,j,q,S⟩) (p_ y _ _),aj (show(_:List Value).toArray.size=n.length by simpa using o)];have h2:k<n.length:=by exact jU [(cN,dW),(ys dW,fU)] (ys cN,fU) rt (kQ _) (bb.mpr g)
  unfold seqIndex?
  simp[h0,h2,show ¬k<0 by exact zo6 h0]
 |bytes b=>
  erw[cA h,(f h0 U),ay U,(u d q),dg p.inv,(F M E L)];rcases F with⟨l⟩
  subst E;subst L;have g:=Md d;erw[<-tail_any (typeIs_bytes _ _ _) vB.lookup ?_ (p_ y _ _),getItem_bytes (aH f (dc rfl)) h0 ((zx h0).mp g)];have:l.getD k.toNat 0=u:=by refine' aj (Dm) ?_;refine' aj (show l[k.toNat]?=some u from d) ?_;rfl
  erw[aj this,<-PV.int S q]
 |_=>exact h.elim
theorem ki.set(R:ki G H h)(e:H a=some mo)(j:eu (some mo)=eu (some mo'))(v:t=a\/(eu (some mo)=true/\sG h a=some t))(k:jt (· =t) h h')(o:eu (some mo)=true->sG h' a=sG h a)(F:t_ G h' a mo'):
  ki G (upd H a mo') h'/\dM h h'/\∀b,FP (upd H a mo') h' b ↔ FP H h b:=by
 have ft:FP H h t:=by
  rcases v with rfl|⟨j,o⟩
  ·exact .inl (by erw[aj e];simp)
  ·exact .inr ⟨a,by erw[aj e,<-j],o⟩
 have T:=k.tup λx r E c=>by replace c:=c.symm;subst c;exact R.zG ft E
 have B:∀x,H x≠none->x≠a->x≠t:=λx c u s=>by
  subst s;rcases v with rfl|⟨j,o⟩
  ·exact u rfl
  ·exact c (R.off a x (aj e j) o)
 have i:∀x,eu (upd H a mo' x)=true->eu (H x)=true/\sG h' x=sG h x:=λx c=>by
  by_cases q:x=a
  ·subst q;rw[cY,<-j] at c;exact⟨by erw[aj e,<-c],o c⟩
  ·rw[dp _ _ q] at c;exact⟨c,R.pH k (eT c) (B x (eT c) q)⟩
 refine⟨⟨λx m q=>?_,λx y d c C p D=>?_,λx d c p=>?_⟩,T,λb=>?_⟩
 ·by_cases g:x=a
  ·subst g;rw[cY] at q;injection q with q;subst q;exact F
  ·rw[dp _ _ g] at q;refine k.CM T (B x (by erw[aj q];simp) g) (λd J n A=>?_) (R.obj x m q);replace A:=A.symm;subst A;rcases v with rfl|⟨w,z⟩
   ·have:=R.off x _ (aj q n) J;rw[e] at this;injection this
   ·exact g (R.inj x a _ (aj q n) (aj e w) J z)
 ·rw[(i x c).2] at p;rw[(i y C).2] at D;exact R.inj x y d (i x c).1 (i y C).1 p D
 ·rw[(i x c).2] at p;have:=R.off x d (i x c).1 p
  by_cases g:d=a
  ·subst g;rw[e] at this;injection this
  ·erw[aj (dp _ _ g),<-this]
 ·unfold FP
  constructor
  ·rintro (f|⟨x,c,J⟩)
   ·by_cases g:b=a
    ·subst g;exact .inl (by erw[aj e];simp)
    ·rw[dp _ _ g] at f;exact .inl f
   ·exact .inr ⟨x,(i x c).1,by erw[c_ ((i x c).2),<-J]⟩
  ·rintro (f|⟨x,c,J⟩)
   ·by_cases g:b=a
    ·subst g;exact .inl (by rw[cY];simp)
    ·exact .inl (aj (dp _ _ g) f)
   ·have l:eu (upd H a mo' x)=true:=by
     by_cases g:x=a
     ·subst g;rewrite[cY];erw[c_ j];rw[e] at c;exact c
     ·erw[aj (dp _ _ g),<-c]
    exact .inr ⟨x,l,by erw[aj ((i x l).2),<-J]⟩
theorem Sat.set(S:Sat K N au ρ B ak os H s)(e:H a=some mo)(d:eu (some mo)=eu (some mo'))(l:t=a\/(eu (some mo)=true/\sG s.heap a=some t))(k:d_ t s.heap s'.heap)(g:eu (some mo)=true->sG s'.heap a=sG s.heap a)(r:t_ (rP K) s'.heap a mo')(u:s'.gens=#[]:=by exact S.h.gens)(E:s'.os=os:=by exact S.h.os):
  Sat K N au ρ B ak os (upd H a mo') s':=by
 have ft:FP H s.heap t:=by
  rcases l with rfl|⟨d,g⟩
  ·exact .inl (by erw[aj e];simp)
  ·exact .inr ⟨a,by erw[aj e,<-d],g⟩
 have j:=jt.kf k;erw[cA (S.h.rel.set e d l j g r),(R T F)];have v:=S.h.nO t ft;have n:∀p∈ak,p.1≠t:=λp c q=>(S.h.ak p c).2.1 (q▸ft);refine⟨⟨S.h.st,λb o i=>?_,R,λb f=>S.h.nO b ((F b).mp f),λp c=>?_,u,E⟩,S.f.keep j T (λb o q=>S.f.Ax o (by replace q:=q.symm;subst q;exact ft)) λb o f=>S.f.Ax o ((F b).mp f)⟩
 ·have m:b≠t:=λq=>by replace q:=q.symm;subst q;rw[v] at i;injection i
  exact(k.2 b m).trans (S.h.stays b o i)
 ·erw[dX (S.h.ak p c),(z y x U),bf U,(sl w),<-⟨z,λf=>y ((F _).mp f),x,sl,(k.2 _ (n p c)).trans w⟩]
theorem Mg(k:d_ t h h')(n:a≠t):sG h' a=sG h a:=by unfold sG;refine' aj (k.2 a n) ?_;rfl
def sL(h:Heap)(a:Addr)(items:Array Value):Prop:=∃n sl,h.get? a=some {cls:=.type "list",dict:=none,data:=.seq items n,slots:=sl}
theorem wd(x:t_ G h a (.list vs)):∃b,sL h a b.toArray/\bU h b vs:=by
 erw[ay x,(b R r),aD R,(g e),cX g,(f j l i)];rcases f with⟨c,d,dt,sl⟩
 erw[bf i,(n k),<-⟨b,⟨n,sl,?_⟩,r⟩];unfold sG at e;rw[j] at e;subst l;subst k;subst e;exact j
theorem sL.CM(x:sL h a aQ.toArray)(r:bU h aQ vs):t_ G h a (.list vs):=by
 erw[gI x,(n sl b),<-⟨aQ,⟨⟨_,b,rfl,n,rfl⟩,by unfold sG;erw[aj b];rfl⟩,r⟩]
theorem sL.isList(x:sL h a Qh):h.IsList a Qh:=let⟨n,_,ho⟩:=x;⟨_,ho,rfl,n,rfl⟩
theorem sL.update(x:sL h a Qh)(f:Array Value->Array Value):sL (h.update a (lZ f)) a (f Qh):=by
 erw[gI x,(n sl b),<-⟨_,sl,(e_ _ b rfl).trans rfl⟩]
theorem Sat.mapList(S:Sat K N au ρ B ak os H s)(e:H a=some (.list vs))(f:Array Value->Array Value)(g:f Qh=X3.toArray)(hl:sL s.heap a Qh)(r:bU s.heap X3 E8):Sat K N au ρ B ak os (upd H a (.list E8)) {s with heap:=s.heap.update a (lZ f)}:=by
 have c:d_ a s.heap (s.heap.update a (lZ f)):=iE ..;have T:=jt.tup (jt.kf c) λx i d b=>by replace b:=b.symm;subst b;exact S.h.rel.zG (.inl (by erw[aj e];simp)) d
 exact S.set (mo':=.list E8) e rfl (.inl rfl) c (λx=>by injection x) ((g▸hl.update f).CM (r.mono T))
open PySem.MeetsSeq in
theorem appendS(e:H a=some (.list vs))(f:vs.length<=100000)(b:c9 s.heap vv v)(S:Sat K N au ρ B ak os H s)(h:Q .none (upd H a (.list (vs++[v])))):
  bP (model af w) A (call (.builtin "list.append") [.ref a,vv]) (PV K N au ρ B ak os Q) Ex s:=by
 erw[ay (wd (S.h.rel.obj a _ e)),(i hl r)];have g:=r.length;have d:=S.mapList e (λx=>x.push vv) (by simp) hl (r.append (.cons b .nil));erw[gI (id hl),(n sl c),<-wpAny_call_entry slot_list_append hl.isList.typeIs entry_list_append ?_ (args_list_append _ _)];show bP _ _ (updateSeq a (·.push vv) >>= λ_=>ret .none) _ _ s;exact wpAny_bind (wpAny_updateSeq c rfl (wpAny_pure ⟨.none,rfl,.none,_,.none,h,d⟩))
theorem ED{l:Addr}{k:Int}(hl:sL s.heap l items)(h0:0<=k)(V:k<2^63)(c:k<items.size)(h:Q () {s with heap:=s.heap.update l (lZ (·.setIfInBounds k.toNat v))}):bP (model af w) A (setItem (.ref l) (.int k t) v) Q Ex s:=by
 erw[gI (id hl),(n sl b),<-wpAny_holding (wpAny_bind (wpAny_sequenceKey hl.isList.typeIs (dc rfl) ?_))];refine wpAny_bind (wpAny_callSpecial?_slot hl.isList.typeIs E2
  (wpAny_call_entry E2 hl.isList.typeIs PySem.entry_list_setitem ?_ (PySem.args_list_setitem _ _ _)))
 show bP _ _ (Builtin.List.listSubscript? (.int k t) >>= _) _ _ s;erw[<-wpAny_bind (wpAny_listSubscript_int (fitsIndex_of h0 V) ?_),bf (jW h0),(j a)];subst a;have d:j<items.size:=by exact zo7 c
 erw[<-wpAny_bind (wpAny_bind (wpAny_seqItemAt b rfl (wpAny_pure ?_))),aj (Array.getElem?_eq_getElem d),<-wpAny_bind (wpAny_setSeqItemAt b rfl ?_)]
 first
  |exact wpAny_bind (wpAny_pure (wpAny_pure ⟨.none,rfl,wpAny_pure h⟩))
  |exact wpAny_pure ⟨.none,rfl,wpAny_pure h⟩
theorem L7(j:c9 s.heap va x)(g:c9 s.heap vi i)(f:c9 s.heap vv v)(S:Sat K N au ρ B ak os H s)(h:vR x i v H Q):
  bP (model af w) A (setItem va vi vv) (λ_ s'=>∃d,Q d/\Sat K N au ρ B ak os d s') Ex s:=by
 erw[dg (BD h g),(k t b h)];subst b
 induction x using V.casesOn with
 |ref a=>
  have e:=j.inv;subst e;erw[Rt (f_ h),(n e l h0 c q),ay (wd (S.h.rel.obj a _ e)),(o hl r)];have m:=r.length;exact ED hl h0 (oY [(ys cN,dW),(dW,yn 100000)] (ys cN,yn 9223372036854775808) rt c (ax.mpr l)) (by simp;exact jU [(ys cN,dW),(dW,fU)] (ys cN,fU) rt c (aF (ao (congrArg rB m)))) ⟨_,q,S.mapList e _ (by simp) hl (r.set k.toNat f)⟩
 |_=>exact h.elim
theorem GH(l:Addr)(a:Array Value)(n:Nat)(sl:Array (Option Value))(i:Int)(u:Tok)(k:Nat)(y:Value)(V:Builtin.List.listFitsIndex i=true)(e:seqIndex? i a.size=some k)(b:a[k]?=some y)(Q:a.size<=ie):
  Meets (Builtin.«list.pop» ⟨[.ref l,.int i u],[]⟩)
   (λ_ R s=>s.heap.get? l=some {cls:=.type "list",dict:=none,data:=.seq a n,slots:=sl}/\R (.ok (.ret y)) {s with heap:=s.heap.update l (lZ λxs=>xs.eraseIdxIfInBounds k)}):=
 .of_wp λaf w A R s h=>by
  rcases s with⟨hp,g,d,tk,os⟩;refine aD h ?_;intro hl h
  have j:¬a.isEmpty=true:=by
   intro f;have:a.size=0:=by simpa using f
   simp[this] at b
  wp_walk using ub hl
  simp only[e,b,Option.bind_some,Option.map_some];have c:(a.eraseIdxIfInBounds k).size<=ie+1:=by
   unfold Dz;split
   ·rw[Array.size_eraseIdx];exact gF [(av,aW),(bT,av)] (bT,zs aW) rt Q (iW _ _)
   ·exact UZ Q
  wp_walk using(wpAny_updateSeq hl rfl),ub hl
  exact⟨_,rfl,h⟩
theorem aaX(e:H a=some (.list vs))(j:vs.length<=100000)(S:Sat K N au ρ B ak os H s)(h0:0<=i)(d:vs[i.toNat]?=some v)(h:Q v (upd H a (.list (vs.eraseIdx i.toNat)))):bP (model af w) A (call (.builtin "list.pop") [.ref a,.int i t]) (PV K N au ρ B ak os Q) Ex s:=by
 erw[ay (wd (S.h.rel.obj a _ e)),(l hl r)];have g:=r.length;have f:i.toNat<vs.length:=by
  rcases Nat.lt_or_ge i.toNat vs.length with h|h
  ·exact h
  ·rw[uc h] at d;injection d
 erw[ay (r.get d),(u q o)];have y:=S.mapList e (λm=>m.eraseIdxIfInBounds i.toNat) (by
  unfold Dz;erw[aj (dif_pos (by simp;exact zo9 f g))]
  simp) hl (r.eraseIdx i.toNat)
 erw[gI (id hl),(n sl k),<-call_meets E3 ⟨_,k,rfl⟩ PySem.F.entry_list_pop (PySem.F.args_list_pop_2 _ _) (GH a l.toArray n sl i t i.toNat u (fitsIndex_of h0 (zo5 f j)) ?_ (by simpa using q) (by erw[aj sizeLine_eq];simp;exact lK g j rfl)) ⟨k,_,_,?_,h,y⟩]
 ·unfold seqIndex?
  simp[h0,show ¬i<0 by exact zo6 h0,show i<l.length by exact zC [(cN,dW),(ys dW,fU),(fU,vF)] (ys cN,vF) rt (kQ _) (bb.mpr f) (aF (ao (congrArg rB g)))]
 ·exact o.mono (jt.tup (jt.kf (iE ..)) λx b p c=>by replace c:=c.symm;subst c;exact S.h.rel.zG (.inl (by erw[aj e];simp)) p)
theorem xY(l:List α)(lo c:Option Int)(h1:te lo)(h2:te c):
  (l.drop (lo.elim 0 (clipAt l.length))).take (c.elim l.length (clipAt l.length)-lo.elim 0 (clipAt l.length))=cut l lo c:=by
 have cl:∀{i:Int},0<=i->clipAt l.length i=min i.toNat l.length:=λ{i} h=>by
  erw[bf (jW h),(j d)];subst d;rw[clipAt_nat];rfl
 have k:∀a b,(l.drop (min a l.length)).take (min b l.length-min a l.length)=(l.take b).drop a:=by
  erw[(a b),aj List.drop_take];rcases Nat.le_total a l.length with h|h
  ·erw[aj (fE h)];rcases Nat.le_total b l.length with h'|h'
   ·erw[aj (fE h')];rfl
   ·erw[aj (rC h'),aj (d5 (by simp)),aj (d5 (by simp;exact ax.mp (jU [(cN,dW),(dW,fU)] (cN,fU) rt (ax.mpr h') (ax.mpr (iV qt)))))];rfl
  ·erw[aj (rC h),aj (List.drop_of_length_le h)];simp
 unfold cut
 induction lo using tT with
 |none=>
  induction c using tT with
  |none=>simp
  |some b=>
   simp only[Hb,cl h2.1]
   simpa using this
 |some a=>
  induction c using tT with
  |none=>
   simp only[Hb,cl h1.1];have:=k a.toNat l.length
   simpa using this
  |some b=>
   simp only[Hb,cl h1.1,cl h2.1];exact k a.toNat b.toNat
theorem bU.cut(r:bU h aQ vs)(lo a:Option Int):bU h (Mine.cut aQ lo a) (Mine.cut vs lo a):=by
 induction a using tT<;>exact bU.drop _ (by first|exact r|exact r.take _)
theorem aaz{lo c:Option Int}(l:c9 s.heap va x)(n:IsPart vl lo)(m:IsPart vu c)(S:Sat K N au ρ B ak os H s)(h:ND x lo c H Q):
  bP (model af w) A (subscriptTail value (.Slice lower upper none p) va (.ref s.heap.objs.size)) (PV K N au ρ B ak os Q) Ex {s with heap:=s.heap.push {cls:=.type "slice",data:=.fields #[vl,vu,.none]}}:=by
 have j:=S.push {cls:=.type "slice",data:=.fields #[vl,vu,.none]};erw[cA h,(h1 h2 h)]
 induction x using V.casesOn with
 |ref a=>
  have e:=l.inv;subst e;erw[cX (f_ h),(y e f q),ay (eR j e),(v hl r)];have u:=r.length;refine tail_any hl.typeIs B_.lookup (wpAny_getItem_list_slice hl (rd _ _ _ _) n m .none (by simp) ?_ (by erw[aj sizeLine_eq];simp;exact lK u f rfl)) rfl;rw[slicePick_plain];have:=xY v lo c h1 h2;erw[aj this,<-PV.list j (r.cut lo c) q]
 |bytes b=>
  erw[aD h,(f q),dg l.inv,(d t i g)];subst i;subst g;have o:PySem.W.KBy.picked d lo c=(Mine.cut d.toList lo c).toArray:=by
   rw[PySem.W.KBc.picked_eq];have:=xY d.toList lo c h1 h2;erw[aj this];rfl
  erw[<-tail_any (typeIs_bytes _ _ _) vB.lookup ?_ rfl,<-getItem_meets (typeIs_bytes _ _ _) (dc rfl) vB FB.entry_bytes_getitem (FB.args_bytes_getitem_2 _ _) (PySem.W.KBc.meets_slice2 d t _ n m) ⟨rd _ _ _ _,?_,λz k=>?_⟩]
  ·erw[aH (PySem.W.KBc.size_picked_le d lo c)];have:d.size<=1000000:=by simpa using f
   exact dK this rfl
  ·erw[aj o,<-PV.bytes j q]
 |_=>exact h.elim
theorem Fv:∀{i j:Nat},i<27->j<27->atName i=atName j->i=j:=by
 have:∀i,i<27->∀j,j<27->atName i=atName j->i=j:=by decide+kernel
 erw[(i j a b c),<-this i a j b c]
theorem Tj:xB [] k v=[(k,v)]:=rfl
theorem MQ:xB ((j,u)::r) k v=if k==j then(j,v)::r else(j,u)::xB r k v:=rfl
theorem IW(f:List (Nat×V))(k j:Nat)(v:V):Aw (xB f k v) j=if j=k then some v else Aw f j:=by
 unfold Aw
 induction f with
 |nil=>
  erw[aj Tj,aj dA,aj List.lookup_nil]
  by_cases h:j=k
  ·subst h;simp
  ·erw[aj (show(j==k)=false by simpa using h),aj (if_neg h)];rfl
 |cons p r a=>
  rcases p with⟨i,u⟩
  erw[aj MQ]
  by_cases h:k=i
  ·subst h;erw[aj (if_pos (beq_self_eq_true k)),aj dA,aj dA]
   by_cases h2:j=k
   ·subst h2;simp
   ·erw[aj (show(j==k)=false by simpa using h2),aj (if_neg h2)];rfl
  ·erw[aj (if_neg (by simpa using h)),aj dA,aj dA,aj a]
   by_cases h2:j=i
   ·subst h2;simp[show ¬j=k from λe=>h e.symm]
   ·erw[aj (show(j==i)=false by simpa using h2)];rfl
theorem DN(f:List (Nat×V))(k:Nat)(v:V):(xB f k v).length=if(Aw f k).isSome then f.length else f.length+1:=by
 unfold Aw
 induction f with
 |nil=>rfl
 |cons p r a=>
  rcases p with⟨i,u⟩
  erw[aj MQ]
  by_cases h:k=i
  ·subst h;erw[aj dA];rewrite[beq_self_eq_true];rfl
  ·erw[aj (if_neg (by simpa using h)),aj dA,aj aU,aj a];simp only[show(k==i)=false by simpa using h]
   split<;>simp
theorem D6{hash:Int}{o:Obj}(j:o.data=.dict es n)(f:StrKeys es):
  ∃q g,(o.putName name hash (.str name t) v).data=.dict q g/\(o.putName name hash (.str name t) v).cls=o.cls/\(o.putName name hash (.str name t) v).dict=o.dict/\StrKeys q/\
   q.size=(if(nsFind es name).isSome then es.size else es.size+1)/\∀x,nsFind q x=if x=name then some v else nsFind es x:=by
 rcases o with⟨c,d,dt,sl⟩
 subst j;cases a:es.findIdx? (·.key.isStr name) with
 |some i=>
  have W:(nsFind es name).isSome=true:=by
   unfold nsFind findBy;cases b:es.find? (·.key.isStr name) with
   |some e=>rfl
   |none=>
    rw[Array.find?_eq_none] at b;erw[ay (Array.findIdx?_eq_some_iff_getElem.mp a),(h1 h2 _),<-absurd h2 (by simpa using b _ (Array.getElem_mem h1))]
  refine⟨es.modify i λe=>{e with val:=v},n,by simp only[kR,ig,a],by simp only[kR,ig,a],by simp only[kR,ig,a],f.modify _ _,?_,λx=>?_⟩
  ·erw[aj (if_pos W),aj Array.size_modify];rfl
  ·exact findBy_modify (λn v=>v.isStr n) Value.isStr_inj es name x v i a
 |none=>
  have X:(nsFind es name).isSome=false:=by
   unfold nsFind findBy;cases b:es.find? (·.key.isStr name) with
   |none=>rfl
   |some e=>
    exact absurd (Array.find?_some b) (by simpa using(Array.findIdx?_eq_none_iff.mp a e (Array.mem_of_find?_eq_some b)))
  refine⟨es.push ⟨hash,.str name t,v⟩,n+1,by simp only[kR,ig,a],by simp only[kR,ig,a],by simp only[kR,ig,a],f.push _ _ _ _,?_,λx=>?_⟩
  ·erw[aj X,aj (if_neg (dc rfl))];rw[Array.size_push]
  ·exact findBy_push (λn v=>v.isStr n) es name x _ _ v (λy=>by
    show(name==y)=decide (y=name)
    by_cases h:y=name
    ·subst h;simp
    ·have:¬name=y:=λe=>h e.symm
     simp[h,this]) a
theorem nT.put(D:nT h d fs)(g:k<27){hash:Int}(e:h'=h.update d (Obj.putName (atName k) hash (.str (atName k) t) vv))(T:dM h h')(r:c9 h vv v):nT h' d (xB fs k v):=by
 erw[u0 D,(o E n A C B z u m y),CJ (D6 (name:=atName k) (hash:=hash) (t:=t) (v:=vv) B z),(p s e1 e2 e3 e4 e5 e6)];have a:=m k g;refine⟨_,p,s,?_,e2.trans C,e1,e4,?_,λj l=>?_,λx b=>?_⟩
 ·erw[aj e,<-e_ _ A (Obj.isFreed_of_dict e1)]
 ·erw[aj e5];rewrite[DN];erw[aj u];cases q:Aw fs k with
  |none=>rw[q] at a;refine' aj a ?_;rfl
  |some x=>rw[q] at a;refine ay a ?_;intro w f _;refine' aj f ?_;rfl
 ·rw[IW,e6]
  by_cases q:j=k
  ·subst q;erw[aj (if_pos rfl),aj (if_pos rfl),<-⟨vv,rfl,r.mono T⟩]
  ·erw[aj (if_neg q),aj (if_neg λe=>q (Fv l g e))];have:=m j l;cases i:Aw fs j with
   |none=>rw[i] at this;exact this
   |some x=>rw[i] at this;refine ay this ?_;intro w f c;exact⟨w,f,c.mono T⟩
 ·rewrite[e6];erw[aj (if_neg (b k g)),<-y x b]
theorem yG(c:o.data=.dict es n)(a:StrKeys es):lookIn name o=some (nsFind es name):=by
 unfold lookIn nsFind findBy;erw[aj c];dsimp only;erw[c_ (Array.find?_toList)];cases d:es.toList.find? (·.key.isStr name) with
 |some e=>rfl
 |none=>
  have:es.toList.any (·.refKey)=false:=by
   rw[y7];erw[(e b),gI (a e (Array.mem_toList_iff.mp b)),(n t h)];simp[ID,h]
  simp[this]
theorem Jn(r:c9 h v x):handedIn v=true:=by cases r<;>rfl
structure Good(K:fg)(C:Addr):Prop where
 ga:findIn K (.ref C) "__getattribute__"=some (some (.builtin "object.__getattribute__"))
 gn:findIn K (.ref C) "__getattr__"=some none
 hd:hasDictIn K C=true
 po:plainOver K C=true
 sa:findIn K (.ref C) "__setattr__"=some (some (.builtin "object.__setattr__"))
 nm:∀k,k<27->findIn K (.ref C) (atName k)=some none/\takerIn K C (atName k)=some none
theorem Good.of(h:rP K C=true):Good K C:=by
 unfold rP plainGet at h;simp only[Bool.and_eq_true,beq_iff_eq,cJ] at h;erw[aD h,(e _),aD e,(i h6),aD i,(a h5),aD a,(p h4),aD p,(t h3),aD t,(h1 h2),<-⟨h1,h2,h3,h4,h5,λk c=>?_⟩];have b:AT.getD k "" ∈AT:=by
  erw[aj (Dm)];have:=c;erw[aj (bx this),<-fL this]
 exact h6 _ b
theorem Sat.Br(S:Sat K N au ρ B ak os H s):K.In s.heap:=S.h.st.Br.keeps S.h.stays
theorem zt(S:Sat K N au ρ B ak os H s)(e:H a=some (.inst C fs)):
  ∃c d b,Good K C/\InstAt s.heap a c C (some b)/\c.dict=some d/\sG s.heap a=some d/\s.heap.get? d=some b/\nT s.heap d fs:=by
 erw[aD (S.h.rel.obj a _ e),(j x),iC x,(o d f i g Q D),xN (id D),(b k n J _),<-⟨o,d,b,Good.of j,⟨f,i,?_,?_⟩,Q,?_,J,D⟩]
 ·unfold notCls;erw[aj g];rfl
 ·erw[aj Q,<-J]
 ·unfold sG;erw[aj f,<-Q]
theorem attrS(g:c9 s.heap va x)(S:Sat K N au ρ B ak os H s)(h:yv x k H λu=>Q u H):
  bP (model af w) A (getAttr va (atName k) expr) (PV K N au ρ B ak os Q) Ex s:=by
 erw[mR (Ij h),(a C U z e f E)];subst z;erw[ay E,(v i q)];have t:=g.inv;subst t;erw[sJ (zt S e),(F d M G I R p J D),u0 D,(o V n b T y l O m P)];rw[J] at b;injection b with b;subst b
 have:=m k f;rw[i] at this;erw[ay this,(u j r),ay (any_some G.hd),(cd c L),<-get_value S.Br I G.ga ?_ (Jn r) ⟨_,H,r,q,S.tok _⟩];unfold findObj;erw[aj c,aj ((G.nm k f).1)];show Option.bind (PySem.W.ownOf _ _ _) _=_;unfold PySem.W.ownOf;erw[aj L];dsimp only;erw[aj (yG y l),aj j];rfl
theorem abY(F:c9 s.heap vv v)(S:Sat K N au ρ B ak os H s)(e:H a=some (.inst C fs))(z:k<27)(hz:fs.length<=100)(q:∀s',Sat K N au ρ B ak os (upd H a (.inst C (xB fs k v))) s'->R (.ok (.ret .none)) s'):codeAny (model af w) A (.call (.builtin "object.__setattr__") ⟨[.ref a,.str (atName k) tk,vv],[]⟩) R s:=by
 erw[sJ (zt S e),(L d od G I Q f J D),osa_open S.Br I G.po (G.nm k z).2,(b),ay (any_some G.hd),(cd p LI)];have U:=I.at_;have JW:=I.cls;rcases L with⟨oc,odi,oda,osl⟩
 subst JW;subst Q;erw[<-wpAny_bind (wpAny_pure (wpAny_bind (wpAny_bind (wpAny_loadPart U (wpAny_bind ((looks_clsIn S.Br p).here ?_)))))),aj LI,<-wpAny_pure (wpAny_bind (wpAny_pure (wpAny_bind ?_))),<-wpAny_bind (wpAny_bind (wpAny_askSetting (wpAny_pure (wpAny_bind (wpAny_mkText (wpAny_bind (wpAny_loadPart J ?_))))))),u0 D,(o r n i V E y m hf g)];rw[J] at i;injection i with i;subst i
 erw[aj E];dsimp only;have c:(!r.any (·.key.isStr (atName k)) &&r.any (·.refKey))=false:=by
  have:r.any (·.refKey)=false:=by
   rw[Array.any_eq_false'];erw[(e O),gI (y e O),(n t h)];simp[ID,h]
  erw[aj this];rw[Dn]
 rewrite[aRefKeyMayBeTheName_at];erw[aj c,wpAny_updatePart J,CJ (D6 (name:=atName k) (hash:=Bv w.params (atName k)) (t:=s.toks) (v:=vv) E y),(qo n' e1 e2 e3 e4 e5 e6)];have j:d_ d s.heap (s.heap.update d (Obj.putName (atName k) (Bv w.params (atName k)) (.str (atName k) s.toks) vv)):=iE ..;have u:a≠d:=λq=>by replace q:=q.symm;subst q;rw[J] at U;injection U with U;subst U;injection V
 have T:=jt.tup (jt.kf j) λx l M g=>by replace g:=g.symm;subst g;exact S.h.rel.zG (.inr ⟨a,by erw[aj e];rfl,f⟩) M
 erw[<-wpAny_bind (wpAny_lookBehind (e_ _ J (Obj.isFreed_of_dict e1)) (aj e1 (pastItsLine_dict (by erw[aj e5,aj m,aj sizeLine_eq];split<;>lia))) ?_),wpAny_pure,aD (S.h.rel.obj a _ e),(W D8),iC D8,(o2 d2 P Bk Y X _)];rw[U] at P;injection P with P;subst P
 refine q _ (S.set (mo':=.inst C (xB fs k v)) e rfl (.inr ⟨rfl,f⟩) j (λ_=>Mg j u) ⟨W,_,d,(j.2 a u).trans U,rfl,Y,rfl,D.put z rfl T F⟩)
theorem DM(f:c9 s.heap va x)(r:c9 s.heap vv v)(S:Sat K N au ρ B ak os H s)(h:kX x k v H Q):
  bP (model af w) A (setAttr va (atName k) vv) (λ_ s'=>∃b,Q b/\Sat K N au ρ B ak os b s') Ex s:=by
 erw[AG (Ij h),(a C t c e i g q)];subst c;have l:=f.inv;subst l;erw[sJ (zt S e),(o d n G I p j J D),<-set_plain S.Br I G.sa (abY r (S.tok _) e i g λs' m=>⟨_,q,m⟩)]
variable{sc:List (Str×dz)}
structure PQ(N:dH)(sc:List (Str×dz)):Prop where
 kd:∀x k i,(x,k,i)∈N->sc.lookup x=some (kdOf k)/\(x==("__classdict__":Str))=false
 fn:∀x k i k' j,(x,k,i)∈N->(x,k',j)∈N->k=k'/\i=j
 inj:∀x y k k' i,(x,k,i)∈N->(y,k',i)∈N->x=y
theorem PQ.of(h:Ej N sc=true):PQ N sc:=by
 have h:=ag.mp h;have h1:=cJ.mp h.1;have h2:=λp c q b=>ag.mp (cJ.mp (cJ.mp h.2 p c) q b);have e:∀p∈N,∀q∈N,(p.1==q.1)=(p.2.2==q.2.2):=λp c q b=>beq_iff_eq.mp (h2 p c q b).1;refine⟨λx k i m=>?_,λx k i d j m a=>?_,λx y k d i m a=>beq_iff_eq.mp ((e _ m _ a).trans (beq_self_eq_true i))⟩
 ·have z:=ag.mp (h1 _ m);exact⟨beq_iff_eq.mp z.1,(Bool.not_eq_true' _).mp z.2⟩
 ·have z:=beq_iff_eq.mp ((e _ m _ a).symm.trans (beq_self_eq_true x));erw[<-⟨?_,z⟩,<-(nq.mp (h2 _ m _ a).2).elim (λq=>absurd z (bne_iff_ne.mp q)) λq=>?_]
  induction k using Kd.casesOn<;>induction d using Kd.casesOn<;>first|rfl|(injection q)
theorem mem_of_lookup[BEq α][LawfulBEq α]{l:List (α×β)}(h:l.lookup x=some y):(x,y)∈l:=by
 induction l with
 |nil=>injection h
 |cons p r i=>
  rcases p with⟨a,b⟩
  rw[dA] at h
  split at h
  ·rename_i e;injection h with h;subst h;refine' aj (beq_iff_eq.mp e) ?_;exact j4
  ·exact fR (i h)
structure cU(sc:List (Str×dz))(N:dH)(au:mq)(A:Around)(l:List mq)(ak:List (Addr×Obj))(n:Nat):Prop where
 kind:au.scope.kind=.function
 names:au.scope.names=sc
 JU:PQ N sc
 glob:au.globals=mainGlobals
 blt:au.builtins=nt
 ar:Wc A l n
 fr:∃L,au.frame=some L
 ne:l≠[]
 frs:∀e∈l,e.scope.kind≠.module/\∃L,e.frame=some L/\(L=au.locals\/∃p∈ak,p.1=L)
theorem Sat.SV(O:PQ N sc)(S:Sat K N au ρ B ak os H s)(m:(x,Kd.loc,i)∈N)(E:c9 s.heap vv v)(hm:s.heap.Ns au.locals mm)(J:∀x k i,(x,k,i)∈N->k=.loc->∀v,ρ i=some v->∃val,mm x=some val/\c9 s.heap val v)(M:s'.heap.Ns au.locals λy=>if y=x then some vv else mm y)(t:d_ au.locals s.heap s'.heap)(Q:s'.gens=#[]:=by exact S.h.gens)(E_:s'.os=os:=by exact S.h.os):
  Sat K N au (upd ρ i v) B ak os H s':=by
 have k:=jt.kf t;have T:=k.tup λa g r e=>by subst e;exact S.f.u_ (.inl rfl) g r
 have h1:∀a,FP H s.heap a->¬a=au.locals:=λa f e=>S.f.off (e▸f);have SH:gV K B ak os H s':=by
  refine S.h.keep k (λb o w=>?_) h1 (λa g r e=>by subst e;exact S.f.u_ (.inl rfl) g r) (λp L e=>S.f.out p L e) Q E_;have D:b≠au.locals:=λq=>by replace q:=q.symm;subst q;rw[S.f.nO] at w;injection w
  exact(t.2 b D).trans (S.h.stays b o w)
 have C:=S.h.rel.pV k h1;have n:∀{y k j},(y,k,j)∈N->y≠x->j≠i:=λ{y k j} d ne e=>by subst e;exact ne (O.inj _ _ _ _ _ d m)
 have Y:∀{y k j},(y,k,j)∈N->k≠.loc->y≠x:=λ{y k j} d ne e=>by replace e:=e.symm;subst e;exact ne (O.fn _ _ _ _ _ d m).1
 refine⟨SH,⟨⟨_,M,λy k j d P u l=>?_⟩,S.f.nO,λf=>S.f.off ((C _).mp f),S.f.out,λy j d=>?_,S.f.inj,λy j d u l=>?_⟩⟩
 ·by_cases e:y=x
  ·replace e:=e.symm;subst e;erw[aD (O.fn _ _ _ _ _ d m),(_ z)];replace z:=z.symm;subst z;rw[cY] at l;injection l with l;subst l
   exact⟨vv,if_pos rfl,E.mono T⟩
  ·rw[dp _ _ (n d e)] at l;erw[ay (J y k j d P u l),(val e1 e2),<-⟨val,by erw[aj (if_neg e),<-e1],e2.mono T⟩]
 ·erw[iC (S.f.cell y j d),(c F a1 A a3 X I),cA I,(W V G),ay G];intro v? a8 a9;refine⟨c,F,a1,A,a3,λf=>X ((C _).mp f),W,(t.2 c A).trans V,v?,a8,λu l=>?_⟩;rw[dp _ _ (n d (Y d (λh=>by injection h)))] at l;erw[ay (a9 u l),(val U R),<-⟨val,U,R.mono T⟩]
 ·rw[dp _ _ (n d (Y d (λh=>by injection h)))] at l;exact S.f.ro y j d u l
theorem Sat.setCell(O:PQ N sc)(S:Sat K N au ρ B ak os H s)(m:(x,Kd.cell,i)∈N)(rv:c9 s.heap vv v)(w:au.cells.lookup x=some c)(hn:s'.heap.IsCell c (some vv))(z:d_ c s.heap s'.heap)(hg:s'.gens=#[]:=by exact S.h.gens)(E_:s'.os=os:=by exact S.h.os):
  Sat K N au (upd ρ i v) B ak os H s':=by
 have t:Own N au c:=.inr ⟨x,i,m,w⟩;erw[iC (S.f.cell x i m),(c' oc A V U R pF),cA pF,(Q a6 tU),ay tU];intro v? a8 a9;rw[w] at A;injection A with A;subst A
 have k:=jt.kf z;have T:=k.tup λa g F e=>by replace e:=e.symm;subst e;exact S.f.u_ t g F
 have h1:∀a,FP H s.heap a->¬a=c:=λa f e=>R (e▸f);have SH:gV K B ak os H s':=by
  refine S.h.keep k (λb o I=>?_) h1 (λa g F e=>by replace e:=e.symm;subst e;exact S.f.u_ t g F) (λp hp e=>Q p hp e) hg E_;have D:b≠c:=λq=>by replace q:=q.symm;subst q;rw[U] at I;injection I
  exact(z.2 b D).trans (S.h.stays b o I)
 have L:=S.h.rel.pV k h1;have r:∀{y k j},(y,k,j)∈N->y≠x->j≠i:=λ{y k j} d ne e=>by replace e:=e.symm;subst e;exact ne (O.inj _ _ _ _ _ d m)
 have Y:∀{y k j},(y,k,j)∈N->k≠.cell->y≠x:=λ{y k j} d ne e=>by replace e:=e.symm;subst e;exact ne (O.fn _ _ _ _ _ d m).1
 erw[ay S.f.ns,(mm X hv),<-⟨SH,⟨⟨mm,X.sameBut z (aJ V),λy k j d M u l=>?_⟩,S.f.nO,λf=>S.f.off ((L _).mp f),S.f.out,λy j d=>?_,S.f.inj,λy j d u l=>?_⟩⟩]
 ·rw[dp _ _ (r d (Y d (λh=>by subst M;injection h)))] at l;erw[ay (hv y k j d M u l),(n e1 e2),<-⟨n,e1,e2.mono T⟩]
 ·by_cases e:y=x
  ·replace e:=e.symm;subst e;erw[aD (O.fn _ _ _ _ _ d m),(_ C)];replace C:=C.symm;subst C;erw[ay hn,(o' W G),<-⟨c,o',w,V,U,λf=>R ((L _).mp f),Q,W,_,G,λu l=>?_⟩];rw[cY] at l;injection l with l;subst l
   exact⟨vv,rfl,rv.mono T⟩
  ·erw[iC (S.f.cell y j d),(J E P b2 b3 b4 Ce),cA Ce,(b5 b6 Eb),ay Eb];intro v2? b8 b9;have D:J≠c:=λq=>by replace q:=q.symm;subst q;exact e (S.f.inj _ _ _ _ _ d m P w)
   refine⟨J,E,P,b2,b3,λf=>b4 ((L _).mp f),b5,(z.2 J D).trans b6,v2?,b8,λu l=>?_⟩;rw[dp _ _ (r d e)] at l;erw[ay (b9 u l),(n e1 e2),<-⟨n,e1,e2.mono T⟩]
 ·rw[dp _ _ (r d (Y d (λh=>by injection h)))] at l;exact S.f.ro y j d u l
def below(au:mq)(ak:List (Addr×Obj))(H:Hp)(h:Heap):Heap:=qO (Hid ak H h (· =au.locals)) h
theorem Sat.Ck(S:Sat K N au ρ B ak os H s):∃o,gV K (below au ak H s.heap) ((au.locals,o)::ak) os H s/\B.StaysIn (below au ak H s.heap)/\dM s.heap (below au ak H s.heap)/\s.heap.get? au.locals=some o:=by
 erw[ay S.f.ns,(m D l),mR D,(o j k b g n q)];have c:∀a,a=au.locals->B.get? a=none:=λa e=>by subst e;exact S.f.nO
 have R:=S.h.raise (· =au.locals) c;refine⟨o,⟨R.st,R.stays,R.rel,R.nO,λp hp=>?_,R.gens,R.os⟩,S.h.up _ c,S.h.v_ (λa e i d=>by subst e;exact S.f.u_ (.inl rfl) i d),b⟩;rcases bE.mp hp with rfl|hp
 ·exact⟨mX (.inr (.inl rfl)),S.f.off,⟨j,k,g⟩,o.slots,b⟩
 ·exact R.ak p hp
theorem Sat.rM(S:Sat K N au ρ B ak os H s)(I:s.heap.get? au.locals=some o)(g:gV K (below au ak H s.heap) ((au.locals,o)::ak) os H' s'):Sat K N au ρ B ak os H' s'/\dM s.heap s'.heap:=by
 have M:∀a,a=au.locals->B.get? a=none:=λa e=>by replace e:=e.symm;subst e;exact S.f.nO
 have up:=S.h.up (P:=(· =au.locals)) M;have T:dM s.heap s'.heap:=λa d r=>dM.of_stays g.stays _ _ (S.h.v_ (λa e d r=>by subst e;exact S.f.u_ (.inl rfl) d r) _ _ r);erw[ay S.f.ns,(F E G),mR E,(o' O Q n L u J)];rw[I] at n;injection n with n;subst n
 erw[dX (g.ak (au.locals,o) j4),(b1 X b3 D),bf D,(sl W)];refine⟨⟨⟨S.h.st,λb z e=>g.stays b z (up b z e),g.rel,λa f=>dF up (g.nO a f),λp t=>?_,g.gens,g.os⟩,
  ⟨⟨F,⟨_,O,Q,W,L,u,J⟩,λx k i m u v l=>?_⟩,S.f.nO,X,S.f.out,λx i m=>?_,S.f.inj,S.f.ro⟩⟩,T⟩
 ·erw[cA (g.ak p (fR t)),(V U R),<-⟨dF up V,U,R⟩]
 ·erw[ay (G x k i m u v l),(j e1 e2),<-⟨j,e1,e2.mono T⟩]
 ·erw[iC (S.f.cell x i m),(c y a1 C a3 a4 AM),cA AM,(A Y Cn),ay Cn];intro v? a8 a9;have w:(below au ak H s.heap).get? c=some y:=(jr _ _ _ _).mpr ⟨λq=>by
   rcases q with f|f|⟨p,t,e⟩
   ·exact a4 f
   ·exact C f
   ·exact A p t e,Y⟩
  refine⟨c,y,a1,C,a3,λf=>?_,A,g.stays _ _ w,v?,a8,λv l=>?_⟩
  ·rw[g.nO c f] at w;injection w
  ·erw[ay (a9 v l),(j e1 e2),<-⟨j,e1,e2.mono T⟩]
variable{n:Nat}
def xX(K:fg)(x:Str)(v:Value):Prop:=nsIn K mainGlobals x=some (some v)\/(nsIn K mainGlobals x=some none/\bootBuiltins x=some v/\x≠ "__name__")
noncomputable def GC:Ff->Value
 | .fn f=>.ref f
 | .cls C _=>.ref C
 | .len=>.builtin "len"
 | .bytes=>.type "bytes"
 | .cZ=>.type "bytearray"
 | .sorted=>.builtin "sorted"
 | .tuple=>.type "tuple"
 | .list=>.type "list"
 | .sum=>.builtin "sum"
 | .min=>.builtin "min"
def Kp(K:fg):Ff->Prop
 | .fn f=>IC K (.ref f)=true
 | .cls C i=>IC K (.ref C)=true/\makesIn K C=true/\findIn K (.ref C) "__init__"=some (some (.ref i))/\isFn K (.ref i)=true/\rP K C=true
 |_=>True
structure TabsOk(T:lS)(K:fg):Prop where
 call:∀x c,T.glob x=some (.call c)->xX K x (GC c)/\Kp K c
 int:∀x i,T.glob x=some (.int i)->∃t,xX K x (.int i t)
 exc:∀x C,T.glob x=some (.exc C)->nsIn K mainGlobals x=some (some (.ref C))/\∃bmB newId,excIn K C bmB newId=true
 nk:∀x,T.glob x=some .nk->xX K x (.type "range")
 bp:∀C m f,T.bp C m=some f->findIn K (.ref C) (zU m)=some (some (.ref f))/\isFn K (.ref f)=true/\IC K (.ref f)=true
 JO:∃aQ:Array Value,(∀h,K.In h->h.IsList (MJ K) aQ)/\(∀v∈aQ.toList,∃i t,v=.int i t)/\Gd K=(aQ.toList.take 24).map OS/\aQ.size<=63
theorem cU.ofName(O:cU sc N au A l ak n)(h:N.lookup x=some (k,i)):(x,k,i)∈N/\au.kindOf x=some (kdOf k)/\(x==("__classdict__":Str))=false:=by
 have m:=mem_of_lookup h;erw[aD (O.JU.kd _ _ _ m),(a b),<-⟨m,by unfold o7;erw[aj O.names,<-a],b⟩]
theorem Hw(O:cU sc N au A l ak n)(S:Sat K N au ρ B ak os H s)(h:N.lookup x=some (k,i))(b:ρ i=some v)(q:∀g,c9 s.heap g v->Q g s):
  bP M A (loadName au x) Q Ex s:=by
 erw[cA (O.ofName h),(m d F)]
 induction k using Kd.casesOn with
 |loc=>
  erw[ay S.f.ns,(E y z),ay (z x _ i m rfl v b),(a e1 e2),<-wpAny_loadName_local O.kind d y e1 (q _ e2)]
 |cell=>
  erw[iC (S.f.cell x i m),(c o e r p j C),cA C,(G D w),ay w];intro v? a8 a9;erw[ay (a9 v b),(a u e2)];subst u;exact wpAny_loadName_cell O.kind d e ⟨o,D,a8⟩ (q _ e2)
 |ro=>
  erw[df (S.f.ro x i m v b),(c a e t j),ay t,(o r p),<-wpAny_loadName_cell O.kind d e ⟨o,S.h.stays _ _ r,p⟩ (q _ (j.mono (dM.of_stays S.h.stays)))]
theorem xQ(O:cU sc N au A l ak n)(S:Sat K N au ρ B ak os H s)(h:N.lookup x=some (k,i))(j:k≠.ro)(r:c9 s.heap vv v)(q:∀s',Sat K N au (upd ρ i v) B ak os H s'->Q () s'):bP M A (storeName au x vv) Q Ex s:=by
 erw[cA (O.ofName h),(m a y)]
 induction k using Kd.casesOn with
 |loc=>
  erw[ay S.f.ns,(w b g),<-wpAny_storeName_local a b (λp h1 h2=>q _ (S.SV O.JU m r b g h1 h2)) (aj O.kind rfl)]
 |cell=>
  erw[iC (S.f.cell x i m),(c o d E D C t),cA t,(z u e),ay e];intro v? a8 a9;exact wpAny_storeName_cell O.kind a d ⟨o,u,a8⟩ λp h1 h2=>q _ (S.setCell O.JU m r d h1 h2)
 |ro=>exact absurd rfl j
theorem yH(O:cU sc N au A l ak n)(S:Sat K N au ρ B ak os H s)(j:(x !=("__debug__":Str))=true)(i:(sc.lookup x==some .globalImplicit)=true)(h:xX K x v)(q:Q v s):
  bP M A (eval (.Name x pos) au) Q Ex s:=by
 erw[vz S.h.st.top,(p d m f T)];have a:au.kindOf x=some .globalImplicit:=by unfold o7;refine' aj O.names ?_;exact beq_iff_eq.mp i
 have c:(x==("__debug__"))=false:=by simpa[bne] using j
 have e:s.heap.Ns au.globals m:=by refine' aj O.glob ?_;exact T.g.keeps S.h.stays
 have k:s.heap.Ns au.builtins f:=by refine' aj O.blt ?_;exact T.b.keeps S.h.stays
 rcases h with h|⟨h1,h2,h3⟩
 ·exact ot O.kind a (E4 e (mg_of S.h.st.Br T.g h) q) c
 ·exact ot O.kind a (Calls.loadGlobal_builtin e (mg_none_of S.h.st.Br T.g h1) k ((T.builtins x h3).trans h2) q) c
def PE(K:fg)(N:dH)(au:mq)(ρ:Loc)(B:Heap)(ak:List (Addr×Obj))(os:bL)(l:List mq)(X:Addr->Hp->Prop)(e:Value)(s':Shared):Prop:=
 ∃ea C,∃_:Unit,∃H',e=.ref ea/\X C H'/\Sat K N au ρ B ak os H' s'/\Way B l ea (.ref C) .none s'.heap
theorem PE.ref(h:PE K N au ρ B ak os l X e s'):∃a,e=.ref a:=by refine Uu h ?_;intro a _ _ _ e _;exact⟨a,e⟩
theorem Sat.frames(S:Sat K N au ρ B ak os H s)(O:cU sc N au A l ak n):zJ l ((au.locals,o)::ak):=λe d=>by
 erw[aD (O.frs e d),(a C),ay C,(L b c),<-⟨a,L,b,?_⟩];rcases c with rfl|⟨p,h,e⟩
 ·exact⟨_,j4,rfl⟩
 ·exact⟨p,fR h,e⟩
theorem Qc(O:cU sc N au A l ak n)(S:Sat K N au ρ B ak os H s)(r:bU s.heap aQ vs)(h:aY af w K n f vs H Q X):
  bN (model af w) A (call (.ref f) aQ) (PV K N au ρ B ak os Q) (PE K N au ρ B ak os l X) s:=by
 erw[fc S.Ck,(o j st T c),<-sg (kP (h _ _ os l A s aQ O.ar.ar (S.frames O) j (r.mono T)) λr k z=>?_)];rcases r with e|(v|_|_|_)
 ·erw[iR z,(g C i b e1 x a F),<-⟨g,C,i,b,e1,x,(S.rM c a).1,Way.down st F⟩]
 ·exact z
 ·exact z
 ·exact z
 ·erw[df z,(x b d q a),<-⟨x,b,d,q,(S.rM c a).1⟩]
variable{T:lS}
def PG{α:Type}(K:fg)(N:dH)(au:mq)(ρ:Loc)(B:Heap)(ak:List (Addr×Obj))(os:bL)(Q:α->Heap->Hp->Prop)(a:α)(s':Shared):Prop:=
 ∃H',Q a s'.heap H'/\Sat K N au ρ B ak os H' s'
def QV(Q:V->Hp->Prop)(v:Value)(h:Heap)(H:Hp):Prop:=∃x,c9 h v x/\Q x H
def QVs(k:Nat)(Q:List V->Hp->Prop)(v:List Value)(h:Heap)(H:Hp):Prop:=∃x,bU h v x/\x.length=k/\Q x H
def QB(Q:Bool->Hp->Prop)(b:Bool)(_:Heap)(H:Hp):Prop:=Q b H
theorem PV.g(h:PV K N au ρ B ak os Q v s'):PG K N au ρ B ak os (QV Q) v s':=by refine df h ?_;intro x H r q S;exact⟨H,⟨x,r,q⟩,S⟩
theorem PE.down(S:Sat K N au ρ B ak os H s)(k:B.StaysIn B')(h:PE K N au ρ B' ak os l X e s'):PE K N au ρ B ak os l X e s':=by
 erw[iR h,(a C b d e1 x c F),<-⟨a,C,b,d,e1,x,S.down k c,Way.down k F⟩]
theorem iZ(S:Sat K N au ρ B ak os H s)(h:∀d,Sat K N au ρ d ak os H s->bN M A t (PG K N au ρ d ak os Qa) (PE K N au ρ d ak os l X) s)(k:∀a s' c,Qa a s'.heap c->Sat K N au ρ B ak os c s'->dM s.heap s'.heap->G a s'):bN M A t G (PE K N au ρ B ak os l X) s:=
 p_mono (h _ S.raise) (λa s'=>bI λc q f=>k a s' c q (S.down S.stays f) λb i g=>dM.of_stays f.h.stays _ _ (S.v_ _ _ g)) λe s' x=>x.down S S.stays
def SE(af:eA)(w:bY)(K:fg)(T:lS)(n:Nat)(N:dH)(au:mq)(A:Around)(l:List mq)(ak:List (Addr×Obj))(os:bL)(m:E)(t:Sem Value):Prop:=
 ∀ρ B H s Q X,Sat K N au ρ B ak os H s->dk af w K T n m ρ H Q X->bN (model af w) A t (PG K N au ρ B ak os (QV Q)) (PE K N au ρ B ak os l X) s
def AN(af:eA)(w:bY)(K:fg)(T:lS)(n:Nat)(N:dH)(au:mq)(A:Around)(l:List mq)(ak:List (Addr×Obj))(os:bL)(ms:List E)(t:Sem (List Value)):Prop:=
 ∀ρ B H s Q X,Sat K N au ρ B ak os H s->gY af w K T n ms ρ H Q X->bN (model af w) A t (PG K N au ρ B ak os (QVs ms.length Q)) (PE K N au ρ B ak os l X) s
def ST(af:eA)(w:bY)(K:fg)(T:lS)(n:Nat)(N:dH)(au:mq)(A:Around)(l:List mq)(ak:List (Addr×Obj))(os:bL)(m:E)(t:Sem Bool):Prop:=
 ∀ρ B H s Q X,Sat K N au ρ B ak os H s->tw af w K T n m ρ H Q X->bN (model af w) A t (PG K N au ρ B ak os (QB Q)) (PE K N au ρ B ak os l X) s
theorem AN.nil:AN af w K T n N au A l ak os [] (spliced (backTo pos (starEach [] au))):=λρ B H s Q X S h=>yk ⟨H,⟨[],.nil,rfl,h⟩,S⟩
theorem kN(h:∀x p,e≠.Starred x p):starEach (e::rest) au=(false,eval e au)::starEach rest au:=by
 induction e using Expr.casesOn<;>first|rfl|exact absurd rfl (h _ _)
theorem AN.cons(d:∀x p,e≠.Starred x p)(h1:SE af w K T n N au A l ak os m (eval e au))(h2:AN af w K T n N au A l ak os ms (spliced (backTo pos (starEach es au)))):
  AN af w K T n N au A l ak os (m::ms) (spliced (backTo pos (starEach (e::es) au))):=by
 erw[(ρ B H s Q X S h),<-pK (iZ S (λo a=>h1 _ _ _ _ _ _ a h) λv s1 y=>bI λx r q i u=>?_) (kN d),<-iZ i (λo a=>h2 _ _ _ _ _ _ a q) λt s2 j=>(cX · λb k hl c g f=>?_),<-⟨j,⟨x::b,.cons (r.mono f) k,by erw[aj aU,aj aU,aj hl];rfl,c⟩,g⟩]
theorem SE.bin(h1:SE af w K T n N au A l ak os ma (eval a au))(h2:SE af w K T n N au A l ak os mb (eval b au)):
  SE af w K T n N au A l ak os (.bin op ma mb) (eval (.BinOp a op b pos) au):=by
 erw[(ρ B H s Q X S h),<-Hq (iZ S (λk c=>h1 _ _ _ _ _ _ c h) λm s1 t=>bI λx d q j o=>?_),<-iZ j (λk c=>h2 _ _ _ _ _ _ c q) λv s2 p=>bI λy r e i f=>?_,<-bc (wpAny_mono (aab (d.mono f) r i e) (λ_ _ z=>z.g) λ_ _ z=>z)]
theorem ya(h:Hs op=true):AW op e=false:=by
 have a:(op== .In||op== .NotIn)=false:=by induction op using CmpOp.casesOn<;>first|rfl|cases h
 unfold AW
 induction e using Expr.casesOn<;>first|rfl|(refine' aj a ?_;dsimp only;rw[Dn];rfl)
theorem SE.cmp(g:A.units+20<cLine)(i:Hs op=true)(h1:SE af w K T n N au A l ak os ma (eval a au))(h2:SE af w K T n N au A l ak os mb (eval b au)):
  SE af w K T n N au A l ak os (.cmp op ma mb) (eval (.Compare a [op] [b] pos) au):=by
 erw[(ρ B H s Q X S h),<-zP (iZ S (λp c=>h1 _ _ _ _ _ _ c h) λu s1 F=>bI λx d q m D=>?_) (ya i),<-iZ m (λp c=>h2 _ _ _ _ _ _ c q) λt s2 E=>bI λy r f k j=>?_,<-p_mono (bc (Wd g (d.mono j) r k f)) (λv C=>bI λb e=>bI λo q c=>?_) λ_ _ z=>z];subst e;exact⟨o,⟨.bool b,.bool b,q⟩,c⟩
theorem ST.cmp(g:A.units+20<cLine)(i:Hs op=true)(h1:SE af w K T n N au A l ak os ma (eval a au))(h2:SE af w K T n N au A l ak os mb (eval b au)):
  ST af w K T n N au A l ak os (.cmp op ma mb) (isTrue (.Compare a [op] [b] pos) au whole):=by
 erw[(ρ B H s Q X S h),<-nS (iZ S (λp c=>h1 _ _ _ _ _ _ c h) λu s1 F=>bI λx d q m D=>?_) (ya i),<-iZ m (λp c=>h2 _ _ _ _ _ _ c q) λt s2 E=>bI λy r f k j=>?_,<-p_mono (bc (Wd g (d.mono j) r k f)) (λv C=>bI λb e=>bI λo q c=>?_) λ_ _ z=>z];subst e;exact bc (wpAny_truthy_bool ⟨o,q,c⟩)
theorem Af(r:c9 h v x)(e:isNone x=some t):isSame v .none=pure t:=by
 cases r<;>cases e<;>rfl
theorem is_none(neg:Bool)(r:c9 h v x)(e:isNone x=some t)(q:Q (.bool (t !=neg)) s):bP M A (compareOp (if neg then .IsNot else .Is) v .none) Q Ex s:=by
 unfold compareOp
 induction neg using tQ
 ·simp only[jR,if_false];erw[aj (Af r e),<-wpAny_bind (wpAny_pure (wpAny_pure ?_))]
  simpa using q
 ·simp only[if_true];erw[aj (Af r e),<-wpAny_bind (wpAny_pure (wpAny_pure ?_))]
  simpa using q
theorem SE.qG(h1:SE af w K T n N au A l ak os ma (eval a au)):
  SE af w K T n N au A l ak os (.qG ma neg) (eval (.Compare a [if neg then .IsNot else .Is] [.Constant .none k p2] pos) au):=by
 erw[(ρ B H s Q X S h),<-zP (iZ S (λg c=>h1 _ _ _ _ _ _ c h) λv s1 d=>bI λx r=>bI λt e q b f=>?_) (by induction neg using tQ<;>rfl),<-bc (wpAny_Constant_none (bc (is_none neg r e ⟨d,⟨_,.bool _,q⟩,b⟩)))]
theorem ST.qG(h1:SE af w K T n N au A l ak os ma (eval a au)):
  ST af w K T n N au A l ak os (.qG ma neg) (isTrue (.Compare a [if neg then .IsNot else .Is] [.Constant .none k p2] pos) au whole):=by
 erw[(ρ B H s Q X S h),<-nS (iZ S (λg c=>h1 _ _ _ _ _ _ c h) λv s1 d=>bI λx r=>bI λt e q b f=>?_) (by induction neg using tQ<;>rfl),<-bc (wpAny_Constant_none (bc (is_none neg r e (bc (wpAny_truthy_bool ⟨d,q,b⟩)))))]
theorem SE.cst(h:Y8 v=true):SE af w K T n N au A l ak os (.cst v) (eval (.Constant (EF v) k pos) au):=by
 intro ρ B H s Q X S q
 induction v using V.casesOn with
 |none=>exact bc (wpAny_Constant_none ⟨H,⟨_,.none,q⟩,S⟩)
 |bool b=>exact bc (wpAny_Constant_bool ⟨H,⟨_,.bool b,q⟩,S⟩)
 |int i=>exact bc (wpAny_Constant_int ⟨H,⟨_,.int i _,q⟩,S.tok _⟩)
 |bytes b=>exact bc (Constant_bytes ⟨H,⟨_,by simpa using c9.bytes b.toArray _,q⟩,S.tok _⟩)
 |_=>injection h
theorem SE.neg:SE af w K T n N au A l ak os (.cst (.int (-c))) (eval (.UnaryOp .USub (.Constant (.int c) k pos) p2) au):=by
 erw[(ρ B H s Q X S q),<-BK (bc (wpAny_Constant_int (bc (neg_int ⟨H,⟨_,.int _ _,q⟩,(S.tok _).tok _⟩))))]
theorem SE.name(O:cU sc N au A l ak n)(b:(x !=("__debug__":Str))=true)(h:N.lookup x=some (k,i)):SE af w K T n N au A l ak os (.loc i) (eval (.Name x pos) au):=by
 erw[(ρ B H s Q X S q),ay (ze q),(v a q),<-bc (wpAny_Name (Hw O S h a λc r=>⟨H,⟨v,r,q⟩,S⟩) (by simpa[bne] using b))]
theorem SE.aby(O:cU sc N au A l ak n)(b:(x !=("__debug__":Str))=true)(a:(sc.lookup x==some .globalImplicit)=true)(h:xX K x (.int i t)):SE af w K T n N au A l ak os (.cst (.int i)) (eval (.Name x pos) au):=by
 erw[(ρ B H s Q X S q),<-bc (yH O S b a h ⟨H,⟨_,.int i t,q⟩,S⟩)]
theorem Cp(r:c9 s.heap va x)(S:Sat K N au ρ B ak os H s)(h:fJ x H λb=>Q b H):bP (model af w) A (truthy va) (PG K N au ρ B ak os (QB Q)) Ex s:=RV r S h
theorem SE.not(h1:SE af w K T n N au A l ak os m (eval e au)):SE af w K T n N au A l ak os (.not m) (eval (.UnaryOp .Not e pos) au):=by
 erw[(ρ B H s Q X S h),<-BK (iZ S (λk f=>h1 _ _ _ _ _ _ f h) λv s1 j=>bI λx r q d i=>?_),<-bc (not_of (wpAny_mono (Cp r d q) (λb s2=>bI λg a c=>⟨g,⟨_,.bool _,a⟩,c⟩) λ_ _ z=>z))]
theorem ST.not(h1:ST af w K T n N au A l ak os m (isTrue e au (eval e au))):ST af w K T n N au A l ak os (.not m) (isTrue (.UnaryOp .Not e pos) au whole):=by
 erw[(ρ B H s Q X S h),<-CY (p_mono (h1 _ _ _ _ _ _ S h) (λb s1=>bI λc q a=>⟨c,q,a⟩) λ_ _ z=>z)]
theorem SE.ite(h1:ST af w K T n N au A l ak os mc (isTrue c au (eval c au)))(h2:SE af w K T n N au A l ak os ma (eval a au))(h3:SE af w K T n N au A l ak os mb (eval b au)):
  SE af w K T n N au A l ak os (.ite mc ma mb) (eval (.IfExp c a b pos) au):=by
 erw[(ρ B H s Q X S h),<-Pc (p_mono (h1 _ _ _ _ _ _ S h) (λt s1=>bI λe q d=>?_) λ_ _ z=>z)];unfold QB at q
 induction t using tQ
 ·exact h3 _ _ _ _ _ _ d (by simpa using q)
 ·exact h2 _ _ _ _ _ _ d (by simpa using q)
theorem ST.ite(h1:ST af w K T n N au A l ak os mc (isTrue c au (eval c au)))(h2:ST af w K T n N au A l ak os ma (isTrue a au (eval a au)))(h3:ST af w K T n N au A l ak os mb (isTrue b au (eval b au))):
  ST af w K T n N au A l ak os (.ite mc ma mb) (isTrue (.IfExp c a b pos) au whole):=by
 erw[(ρ B H s Q X S h),<-Aa (p_mono (h1 _ _ _ _ _ _ S h) (λt s1=>bI λe q d=>?_) λ_ _ z=>z)];unfold QB at q
 induction t using tQ
 ·exact h3 _ _ _ _ _ _ d (by simpa using q)
 ·exact h2 _ _ _ _ _ _ d (by simpa using q)
theorem ST.leaf(h1:SE af w K T n N au A l ak os m (eval e au))(d:isTrue e au (eval e au)=(do let v<-eval e au;standAt e.pos;holding [v] (truthy v)))(c:∀ρ H Q X,tw af w K T n m ρ H Q X->dk af w K T n m ρ H (λv a=>fJ v a λb=>Q b a) X):ST af w K T n N au A l ak os m (isTrue e au (eval e au)):=by
 erw[(ρ B H s Q X S h),<-sC (iZ S (λo g=>h1 _ _ _ _ _ _ g (c _ _ _ _ h)) λi s1 k=>bI λx r q f j=>?_) d,<-bc (Cp r f q)]
theorem Qn(h:wm e=true):tL e a au t=t:=by
 induction e using Expr.casesOn with
 |Call f b ks p=>
  induction f using Expr.casesOn with
  |Name x q=>
   induction b using lcs with
   |nil=>
    induction ks using lcs with
    |nil=>exact Bool.noConfusion h
    |cons=>rfl
   |cons=>rfl
  |_=>rfl
 |_=>rfl
theorem SE.attr(a:wm e=true)(h1:SE af w K T n N au A l ak os m (eval e au)):SE af w K T n N au A l ak os (.attr m k) (eval (.Attribute e (atName k) pos) au):=by
 erw[(ρ B H s Q X S h),EL (iZ S (λi c=>h1 _ _ _ _ _ _ c h) λv s1 f=>bI λx r q b d=>?_)]
 ·exact bc (wpAny_mono (attrS r b q) (λ_ _ z=>z.g) λ_ _ z=>z)
 ·exact Qn a
theorem SE.sub(d:rV i=true)(h1:SE af w K T n N au A l ak os m (eval e au))(h2:SE af w K T n N au A l ak os mi (eval i au)):SE af w K T n N au A l ak os (.sub m mi) (eval (.Subscript e i pos) au):=by
 erw[(ρ B H s Q X S h),<-s7 (iZ S (λo a=>h1 _ _ _ _ _ _ a h) λp s1 C=>bI λx b q k t=>?_),<-iZ k (λo a=>h2 _ _ _ _ _ _ a q) λv s2 u=>bI λy r c j f=>?_,<-bc (wpAny_mono (abD d (b.mono f) r j c) (λ_ _ z=>z.g) λ_ _ z=>z)]
def QO(Q:Option Int->Hp->Prop)(v:Value)(_:Heap)(H:Hp):Prop:=∃k,IsPart v k/\Q k H
def SO(af:eA)(w:bY)(K:fg)(T:lS)(n:Nat)(N:dH)(au:mq)(A:Around)(l:List mq)(ak:List (Addr×Obj))(os:bL)(m:Option E)(t:Sem Value):Prop:=
 ∀ρ B H s Q X,Sat K N au ρ B ak os H s->QG af w K T n m ρ H Q X->bN (model af w) A t (PG K N au ρ B ak os (QO Q)) (PE K N au ρ B ak os l X) s
theorem SO.none:SO af w K T n N au A l ak os none (evalPart none au):=λρ B H s Q X S h=>bh ⟨H,⟨_,.none,h⟩,S⟩
theorem SO.some{e:dh}{m:E}(h1:SE af w K T n N au A l ak os m (eval e au)):SO af w K T n N au A l ak os (some m) (evalPart (some e) au):=λρ B H s Q X S h=>by
 refine p_mono (h1 _ _ _ _ _ _ S h) (λv s1=>bI λb=>bI λx r=>bI λk e q a=>?_) λ_ _ z=>z;subst e;cases r;exact⟨b,⟨_,.int _ _,q⟩,a⟩
theorem SE.A0{lo b:Option dh}(h1:SE af w K T n N au A l ak os m (eval e au))(h2:SO af w K T n N au A l ak os mlo (evalPart lo au))(h3:SO af w K T n N au A l ak os PL (evalPart b au)):
  SE af w K T n N au A l ak os (.A0 m mlo PL) (eval (.Subscript e (.Slice lo b none p) pos) au):=by
 erw[(ρ B H s Q X S h),<-s7 (iZ S (λc a=>h1 _ _ _ _ _ _ a h) λD s1 L=>bI λx r q v G=>?_),<-Hm (iZ v (λc a=>h2 _ _ _ _ _ _ a q) λC s2 J=>bI λF j f u o=>?_),<-iZ u (λc a=>h3 _ _ _ _ _ _ a f) λy s3 I=>bI λE i d t k=>?_,<-bc (wpAny_mono (aaz ((r.mono o).mono k) j i t d) (λ_ _ z=>z.g) λ_ _ z=>z)]
theorem bU.ints:∀{a:List Value},(∀v∈a,∃i t,v=.int i t)->bU h a ((a.map OS).map V.int)
 |[],_=>.nil
 |v::a,q=>by
  erw[gI (q v j4),(i t e),aj e,<-.cons (.int i t) (bU.ints λv m=>q v (fR m))]
theorem SE.JO(j:TabsOk T K)(O:cU sc N au A l ak n)(f:(x !=("__debug__":Str))=true)(h:N.lookup x=some (k,0)):
  SE af w K T n N au A l ak os .JO (eval (.Subscript (.Name x np) (.Slice none (some (.Constant (.int 24) ck kp)) none sp) pos) au):=by
 erw[(ρ B H s Q X S q),cX (ze q),(v c e1 q)];subst e1;erw[fc j.JO,(i hl d e2 b),<-s7 (bc (wpAny_Name (Hw O S h c λo r=>?_) (by simpa[bne] using f)))];have e:=r.inv;subst e;refine Hm (bh (bc (wpAny_Constant_int (k:=ck) (pos:=kp) ?_)));have a:=(S.tok (s.toks+1)).push {cls:=.type "slice",data:=.fields #[.none,.int 24 s.toks,.none]};have hl:=hl _ (a.h.st.Br.keeps a.h.stays);refine bc (tail_any hl.typeIs B_.lookup (wpAny_getItem_list_slice hl (rd _ _ _ _) .none (.int _ _) .none (by simp) ?_ (aj sizeLine_eq (dK b rfl))) rfl);rw[slicePick_plain];have:=xY i.toList none (some 24) trivial ⟨by decide,by decide⟩;erw[aj this,<-(PV.list a ?_ q).g,aj e2,<-bU.ints λv m=>d v (mr m)]
theorem Sat.Lc(S:Sat K N au ρ B ak os H s)(r:bU s.heap aQ vs):Sat K N au ρ B ak os H {s with heap:=s.heap.push {cls:=.type "tuple",data:=.seq aQ.toArray}}/\
  c9 (s.heap.push {cls:=.type "tuple",data:=.seq aQ.toArray}) (.ref s.heap.objs.size) (.tup vs):=
 ⟨S.push _,.tup ⟨_,dv _ rfl,rfl,0,rfl⟩ (r.mono λ_ _ t=>t.push _)⟩
theorem SE.lst(h1:AN af w K T n N au A l ak os ms (spliced (backTo pos (starEach es au)))):SE af w K T n N au A l ak os (.lst ms) (eval (.List es pos) au):=by
 erw[(ρ B H s Q X S h),<-Se (iZ S (λf c=>h1 _ _ _ _ _ _ c h.2) λv s1 e=>(cX · λx a hl q b d=>⟨?_,?_⟩))]
 ·erw[aj a.length,aj hl];have:=h.1;exact dK this rfl
 ·exact(PV.list b a q).g
theorem SE.tup(h1:AN af w K T n N au A l ak os ms (spliced (backTo pos (starEach es au)))):SE af w K T n N au A l ak os (.tup ms) (eval (.Tuple es k pos) au):=by
 erw[(ρ B H s Q X S h),<-Pm (iZ S (λg d=>h1 _ _ _ _ _ _ d h.2) λv s1 e=>(cX · λx a hl q c f=>⟨?_,?_⟩))]
 ·erw[aj a.length,aj hl];have:=h.1;exact dK this rfl
 ·erw[aD (c.Lc a),(b r),<-⟨e,⟨_,r,q⟩,b⟩]
def Bl(af:eA)(w:bY)(K:fg)(T:lS)(n:Nat)(N:dH)(au:mq)(A:Around)(l:List mq)(ak:List (Addr×Obj))(os:bL)(op:BoolOp)(ms:List E)(t:Sem Value):Prop:=
 ∀ρ B H s Q X,Sat K N au ρ B ak os H s->(match op with| .And=>IB af w K T n ms ρ H Q X| .Or=>PO af w K T n ms ρ H Q X)->bN (model af w) A t (PG K N au ρ B ak os (QV Q)) (PE K N au ρ B ak os l X) s
theorem Bl.one(h1:SE af w K T n N au A l ak os m (eval e au)):Bl af w K T n N au A l ak os op [m] (eval (.BoolOp op [e] pos) au):=by
 intro ρ B H s Q X S h
 induction op using BoolOp.casesOn
 ·exact h1 ρ B H s Q X S h
 ·exact h1 ρ B H s Q X S h
theorem Bl.more(h1:SE af w K T n N au A l ak os m (eval e au))(h2:Bl af w K T n N au A l ak os op (m2::ms) (eval (.BoolOp op (e2::es) pos) au)):
  Bl af w K T n N au A l ak os op (m::m2::ms) (eval (.BoolOp op (e::e2::es) pos) au):=by
 intro ρ B H s Q X S h
 induction op using BoolOp.casesOn
 ·erw[<-CB (iZ S (λk c=>h1 _ _ _ _ _ _ c h) λv s1 p=>bI λx r q i o=>?_),iZ i (λk c=>bc (Cp (Q:=λb f=>if b=true then IB af w K T n (m2::ms) ρ f Q X else Q x f) r c q)),(b s2 j a d g)];unfold QB at a
  induction b using tQ
  ·exact⟨j,⟨x,r.mono g,by simpa using a⟩,d⟩
  ·exact h2 _ _ _ _ _ _ d (by simpa using a)
 ·erw[<-EV (iZ S (λk c=>h1 _ _ _ _ _ _ c h) λv s1 p=>bI λx r q i o=>?_),iZ i (λk c=>bc (Cp (Q:=λb f=>if b=true then Q x f else PO af w K T n (m2::ms) ρ f Q X) r c q)),(b s2 j a d g)];unfold QB at a
  induction b using tQ
  ·exact h2 _ _ _ _ _ _ d (by simpa using a)
  ·exact⟨j,⟨x,r.mono g,by simpa using a⟩,d⟩
theorem SE.and(h:Bl af w K T n N au A l ak os .And ms (eval (.BoolOp .And es pos) au)):SE af w K T n N au A l ak os (.and ms) (eval (.BoolOp .And es pos) au):=
 λρ B H s Q X S q=>h ρ B H s Q X S (q)
theorem SE.or(h:Bl af w K T n N au A l ak os .Or ms (eval (.BoolOp .Or es pos) au)):SE af w K T n N au A l ak os (.or ms) (eval (.BoolOp .Or es pos) au):=
 λρ B H s Q X S q=>h ρ B H s Q X S (q)
noncomputable def It:Bool->BoolOp
 |true=>.And
 |false=>.Or
def Of(af:eA)(w:bY)(K:fg)(T:lS)(n:Nat)(N:dH)(au:mq)(A:Around)(l:List mq)(ak:List (Addr×Obj))(os:bL)(all:Bool)(ms:List E)(t:Sem Bool):Prop:=
 ∀ρ B H s Q X,Sat K N au ρ B ak os H s->Cr af w K T n all ms ρ H Q X->bN (model af w) A t (PG K N au ρ B ak os (QB Q)) (PE K N au ρ B ak os l X) s
theorem Of.nil:Of af w K T n N au A l ak os all [] (isTrue (.BoolOp (It all) [] pos) au whole):=by
 intro ρ B H s Q X S h
 induction all using tQ
 ·exact bc (isTrue_or_nil ⟨H,h,S⟩)
 ·exact bc (isTrue_and_nil ⟨H,h,S⟩)
theorem Of.cons(h1:ST af w K T n N au A l ak os m (isTrue e au (eval e au)))(h2:Of af w K T n N au A l ak os all ms (isTrue (.BoolOp (It all) es pos) au whole)):Of af w K T n N au A l ak os all (m::ms) (isTrue (.BoolOp (It all) (e::es) pos) au whole):=by
 intro ρ B H s Q X S h
 induction all using tQ
 ·refine DS (p_mono (h1 _ _ _ _ _ _ S h) (λb s1=>bI λc q a=>?_) λ_ _ z=>z);unfold QB at q
  induction b using tQ
  ·exact h2 _ _ _ _ _ _ a (by simpa using q)
  ·exact⟨c,show Q true c by simpa using q,a⟩
 ·refine Ct (p_mono (h1 _ _ _ _ _ _ S h) (λb s1=>bI λc q a=>?_) λ_ _ z=>z);unfold QB at q
  induction b using tQ
  ·exact⟨c,show Q false c by simpa using q,a⟩
  ·exact h2 _ _ _ _ _ _ a (by simpa using q)
theorem ST.and(h:Of af w K T n N au A l ak os true ms (isTrue (.BoolOp .And es pos) au whole)):ST af w K T n N au A l ak os (.and ms) (isTrue (.BoolOp .And es pos) au whole):=
 λρ B H s Q X S q=>h ρ B H s Q X S (q)
theorem ST.or(h:Of af w K T n N au A l ak os false ms (isTrue (.BoolOp .Or es pos) au whole)):ST af w K T n N au A l ak os (.or ms) (isTrue (.BoolOp .Or es pos) au whole):=
 λρ B H s Q X S q=>h ρ B H s Q X S (q)
theorem wC:∀{vs:List V} {l:List Int},kT vs=some l->vs=l.map V.int
 |[],_,h=>by injection h with h;subst h;rfl
 | .int i::r,l,h=>by
  replace h:(kT r).map (i:: ·)=some l:=h;erw[ay (q_.mp h),(a h1 h2)];subst h2;erw[aj dr,c_ (wC h1)];rfl
 | .none::_,_,h| .bool _::_,_,h| .bytes _::_,_,h| .text::_,_,h| .tup _::_,_,h| .ref _::_,_,h=>by injection h
theorem intsAre_of{l:List Int}:∀{c:List Value},bU h c (l.map V.int)->IntsAre c l:=by
 induction l with
 |nil=>intro c r;refine' aj r.Pb ?_;exact .nil
 |cons i l d=>
  erw[(c r),df (bU.inv r),(v f e a b),bf a.inv,(t e2),aj e,aj e2,<-.cons i t (d b)]
theorem Nc{l:List Int}(q:IntsAre aQ l):bU h aQ (l.map V.int):=by
 induction q with
 |nil=>exact .nil
 |cons i t _ a=>exact .cons (.int i t) a
theorem I9{a b:List Int}(p:a.Perm b)(c:a.Pairwise (· <=·))(h:b.Pairwise (· <=·)):a=b:=
 p.eq_of_pairwise (λx y _ _ h1 h2=>da h1 h2) c h
theorem Er(S:Sat K N au ρ B ak os H s)(e:H a=some (.list vs))(h:vs.length<=100000)(q:Q (.int vs.length) H):bP (model af w) A (call (.builtin "len") [.ref a]) (PV K N au ρ B ak os Q) Ex s:=by
 erw[ay (eR S e),(b hl r)];have d:=r.length;erw[Calls.call_len_list hl (by simp;exact bb.mpr (fe [(av,aW),(aW,zn 100000)] (zs av,zn 9223372036854775808) rt (aa d) h)),aj (show b.toArray.size=(vs.length:Int) by simp;exact congrArg rB (aS (fe [(av,aW)] (av,aW) rt (aa d)) (fe [(av,aW)] (av,aW) rt (aa (ao d))))),<-PV.int S q]
theorem Pn(r:c9 s.heap a x)(S:Sat K N au ρ B ak os H s)(h:jG .len [x] H Q):bP (model af w) A (call (.builtin "len") [a]) (PV K N au ρ B ak os Q) Ex s:=by
 induction x using V.casesOn with
 |ref b=>
  have e:=r.inv;subst e;erw[ay (f_ h),(v e h),<-Er S e h.1 h.2]
 |bytes b=>
  erw[dg r.inv,(c t d i)];subst d;subst i;have h:=h;erw[len_bytes (by have:=h.1;simp at this;exact dK this rfl),aj (show c.size=c.toList.length by simp),<-PV.int S h.2]
 |_=>exact h.elim
theorem FC(r:c9 s.heap a x)(S:Sat K N au ρ B ak os H s)(h:jG .sorted [x] H Q):bP (model af w) A (call (.builtin "sorted") [a]) (PV K N au ρ B ak os Q) Ex s:=by
 induction x using V.casesOn with
 |ref b=>
  have e:=r.inv;subst e;erw[ay (f_ h),(z e h),fc h,(C h1 h2 h3 q)]
  obtain rfl:=wC h1
  erw[ay (eR S e),(f hl r)];have p:=r.length;have d:f.length<64:=by refine' aj p ?_;rewrite[aq];exact h3
  erw[sorted_ints hl (intsAre_of r) d,(c n v u t)]
  obtain rfl:=I9 u t h2
  erw[bf (sortedAll_at s.heap f c),(l g)];have j:s.heap.get? (s.heap.objs.size+1)=none:=by
   cases q:s.heap.get? (s.heap.objs.size+1) with
   |none=>rfl
   |some o=>exact absurd (eO q) (tN.mpr (qp _))
  have y:=S.new (s':={s with heap:=sortedAll s.heap f c}) (mo:=.list (n.map V.int)) (λ_ _=>sortedAll_old) j rfl ⟨c.toList,⟨⟨_,g,rfl,l,by simp[seqObj]⟩,by unfold sG;erw[aj g];rfl⟩,Nc v⟩ S.h.gens S.h.os;have k:H (s.heap.objs.size+1)=none:=by
   cases q:H (s.heap.objs.size+1) with
   |none=>rfl
   |some m=>refine ay ((S.h.rel.obj _ _ q).pf) ?_;intro o i _;rw[j] at i;injection i
  exact⟨_,_,.ref _,q _ k,y⟩
 |_=>exact h.elim
theorem Jh(r:c9 s.heap a x)(S:Sat K N au ρ B ak os H s)(h:jG .tuple [x] H Q):bP (model af w) A (call (.type "tuple") [a]) (PV K N au ρ B ak os Q) Ex s:=by
 induction x using V.casesOn with
 |ref b=>
  have e:=r.inv;subst e;erw[ay (f_ h),(v e h),ay (eR S e),(k hl r)];have g:=r.length;refine call_tuple_list hl (λf c=>?_) (by erw[aj sizeLine_eq];simp;have:=h.1;exact VX h g);have j:=S.grow (s':={s with heap:=f}) c S.h.gens S.h.os;erw[aD (j.Lc (r.mono (jt.tup (jt.of_keeps c) λ_ _ _=>id))),(i d),<-⟨_,H,d,h.2,i⟩]
 |_=>exact h.elim
theorem Lh(r:c9 s.heap a x)(S:Sat K N au ρ B ak os H s)(h:jG .list [x] H Q):bP (model af w) A (call (.type "list") [a]) (PV K N au ρ B ak os Q) Ex s:=by
 induction x using V.casesOn with
 |ref b=>
  have e:=r.inv;subst e;erw[ay (f_ h),(v e h),ay (wd (S.h.rel.obj b _ e)),(j hl r)];have g:=r.length;erw[gI hl,(n sl f),<-call_list_seq b (.inl rfl) f rfl rfl (λk i c d=>?_) (by erw[aj sizeLine_eq];simp;have:=h.1;exact VX h g),<-⟨_,_,.ref _,h.2 _ S.fresh,S.new c (none_at_size _) rfl ?_ S.h.gens S.h.os⟩,<-⟨j,⟨⟨_,d,rfl,i,rfl⟩,by unfold sG;erw[aj d];rfl⟩,r.mono (jt.tup (jt.of_keeps c) λ_ _ _=>id)⟩]
 |_=>exact h.elim
theorem Eo(a:IntsAre aQ ns):∃xs,aQ.toArray=intItems xs/\preSum (numAt xs) xs.size=ns.sum:=by
 erw[bf a.allInts.items,(xs h),<-⟨xs,h,?_⟩];have e1:ns=xs.toList.map (·.1):=by
  rewrite[<-nums_intItems];erw[c_ h,<-(show numsOf aQ.toArray.toList=ns from a.numsOf).symm]
 rewrite[preSum_eq];erw[aj (d5 (by simp)),aj e1];rfl
theorem Py(d:A.handled=none)(r:c9 s.heap a x)(S:Sat K N au ρ B ak os H s)(h:jG .sum [x] H Q):bP (model af w) A (call (.builtin "sum") [a]) (PV K N au ρ B ak os Q) Ex s:=by
 induction x using V.casesOn with
 |ref b=>
  have e:=r.inv;subst e;erw[ay (f_ h),(v e h),cX h,(l h1 h2 q)]
  obtain rfl:=wC h1
  erw[ay (eR S e),(j hl r),ay (Eo (intsAre_of r)),(f e1 e2),sum_intListG d (e1▸hl),(i t g c),aj e2,<-⟨_,H,.int _ _,q,S.grow c S.h.gens S.h.os⟩]
 |_=>exact h.elim
theorem OH(l:A.handled=none)(f:c9 s.heap a x)(r:c9 s.heap b y)(S:Sat K N au ρ B ak os H s)(h:jG .min [x,y] H Q):bP (model af w) A (call (.builtin "min") [a,b]) (PV K N au ρ B ak os Q) Ex s:=by
 induction x using V.casesOn with
 |int i=>
  induction y using V.casesOn with
  |int j=>
   erw[bf f.inv,(t k)];subst k;erw[bf r.inv,(u p)];subst p;have h:Q (.int (min i j)) H:=h;erw[PySem.min_two_ints l,(m e g)];have d:=S.grow (s':={s with heap:=m,toks:=e}) g S.h.gens S.h.os
   by_cases c:j<i
   ·erw[aj (if_pos c)];rw[Int.min_eq_right (IF c)] at h;exact⟨_,H,.int _ _,h,d⟩
   ·erw[aj (if_neg c)];rw[Int.min_eq_left (gq.mp c)] at h;exact⟨_,H,.int _ _,h,d⟩
  |_=>exact h.elim
 |_=>exact h.elim
namespace BA
theorem mro:mroOf (.type "bytearray")=pure [.type "bytearray",.type "object"]:=by rw[mroOf_type];kernel_rfl
theorem Gz:ny (.type "bytearray") "__new__"=pure (some (.builtin "bytearray.__new__")):=by rewrite[dC];refine' aj bZ ?_;kernel_rfl
theorem xD:Slot "bytearray" "__init__" "bytearray.__init__":=
 .of (owner:= "bytearray") (n:= "__init__") (by rewrite[dC];erw[aj bZ];kernel_rfl) (by decide+kernel) (by decide+kernel) (by decide+kernel)
  (by first|exact .inl (by decide+kernel)|exact .inr (by decide+kernel)) (by rw[qY];kernel_rfl)
theorem made:Bind.madeBy (.type "bytearray")=pure (some "bytearray.__new__"):=madeBy_type mro Gz (by decide+kernel)
theorem sub:isSubtype (.type "bytearray") (.type "bytearray")=pure true:=by rw[qY];kernel_rfl
theorem typeCall:checkTypeCall "bytearray" ⟨[],[]⟩=pure ():=by kernel_rfl
theorem OD:checkBuiltinCall "bytearray.__new__" ⟨[.type "bytearray"],[]⟩=pure ():=by kernel_rfl
theorem JD:entryFor table "bytearray.__new__"=some Builtin.«list.__new__»:=
 entryFor_alias (id':= "list.__new__") (by kernel_rfl) (by first|rfl|decide+kernel) (by decide+kernel) (by kernel_rfl)
theorem JG:plainId "bytearray.__new__"=true:=by decide+kernel
theorem Gr:entryFor table "bytearray.__init__"=some Builtin.«bytearray.__init__»:=by first|exact nA (by kernel_rfl)|exact nB (by kernel_rfl)
theorem JF(a:Value):argsOk "bytearray.__init__" ⟨[a],[]⟩:=by unfold argsOk;kernel_rfl
theorem JA:("bytearray.__new__".splitOn ".__new__").headD ""= "bytearray":=by simp+decide [String.splitOn,String.splitOnAux]
theorem J7(h:Q₁ (.ref s.heap.objs.size) {s with heap:=s.heap.push {cls:=.type "bytearray",data:=.bytearray #[]}}):
  codeAny (model af w) A (.call (.builtin "bytearray.__new__") ⟨[.type "bytearray"],[]⟩) (wants Q₁ Ex) s:=by
 erw[Fh,<-wpAny_bind (wpAny_of_eq OD (wpAny_pure ⟨plainId_quiet JG _,codeAny_builtin_stack JD rfl λp st=>?_⟩))];have P:=sub;rcases s with⟨hp,g,d,tk,os⟩
 simp only[JA]
 wp_walk
 exact h
noncomputable def lend(self:Value):Code×Pos->Bool
  |(.builtin "bytearray.__contains__" ⟨v::_,_⟩,_)|(.builtin "bytearray.__mod__" ⟨v::_,_⟩,_)
  |(.builtin "bytearray.__rmod__" ⟨_::v::_,_⟩,_)|(.builtin "_struct.pack_into.held" ⟨v::_,_⟩,_)=>jw v self
  |(.builtin "bytearray.find.held" ⟨_::_::held,_⟩,_)=>held.any (jw self)
  |(.builtin id ⟨v::_,_⟩,_)=>jw v self&&fV.contains id
  |_=>false
theorem KX{id:String}(h:oy (.builtin id args)=true)(m:id∈rU):False:=by
 unfold oy at h;simp only[Bool.not_eq_true',List.contains_eq_mem,decide_eq_false_iff_not] at h;exact h m
theorem O8{id:String}(h:oy (.builtin id args)=true):lend self (.builtin id args,p)=false:=by
 rcases args with⟨pos,kw⟩
 have n:∀x,x∈rU->id≠x:=λx a e=>KX h (e▸a);have e:lend self (.builtin id ⟨pos,kw⟩,p)=(match pos with|v::_=>jw v self&&fV.contains id|_=>false):=by
  delta lend lend.match_1
  erw[<-(dif_neg (n "bytearray.__contains__" (by decide+kernel))).trans ?_,<-(dif_neg (n "bytearray.__mod__" (by decide+kernel))).trans ?_,<-(dif_neg (n "bytearray.__rmod__" (by decide+kernel))).trans ?_,<-(dif_neg (n "_struct.pack_into.held" (by decide+kernel))).trans ?_,<-(dif_neg (n "bytearray.find.held" (by decide+kernel))).trans ?_]
  induction pos using lcs<;>rfl
 erw[aj e]
 induction pos using lcs with
 |nil=>rfl
 |cons v l=>
  cases q:fV.contains id with
  |false=>exact Dn _
  |true=>exact(KX h (JK _ (by simpa using q))).elim
theorem R_(s:Value)(l:List (Code×Pos))(h:∀x∈l,oy x.1=true):l.any (lend s)=false:=by
 rw[y7];intro x b;have d:=h x b;rcases x with⟨c,p⟩
 induction c using Code.casesOn with
 |builtin id a=>refine' aj (O8 d) ?_;exact hW
 |_=>exact hW
theorem AB(h:Q false s):bN M A (Builtin.Bytes.exported self) Q Ex s:=λa p b h1 h2=>by
 show Q (((a.code,p)::a.below).any _) s;refine' aj (R_ self ((a.code,p)::a.below) λx hx=>by
  rcases bE.mp hx with rfl|hx
  ·exact h1
  ·exact h2 x hx) ?_
 exact h
noncomputable def kh(h:Heap)(a:Addr)(b:Array UInt8):Prop:=∃sl,h.get? a=some {cls:=.type "bytearray",dict:=none,data:=.bytearray b 0,slots:=sl}
theorem uH(d:kh s.heap a b)(h:Q () s):bN M A (x9 (.ref a)) Q Ex s:=by
 erw[bf d,(sl c),<-az (az (AB ?_)),<-az (bc ?_),<-wpAny_bind (wpAny_load c (wpAny_pure (bh (bh h))))]
theorem xW(e:kh s.heap a b)(d:(f b).size<=ie)(h:kh (s.heap.update a (gR f)) a (f b)->d_ a s.heap (s.heap.update a (gR f))->Q () {s with heap:=s.heap.update a (gR f)}):bP M A (updateBytearray a f) Q Ex s:=by
 erw[bf e,(sl c),<-wpAny_bind (wpAny_load c ?_),<-wpAny_bind (wpAny_update c ?_)];have h2:=e_ (gR f) c rfl;refine wpAny_lookBehind h2 ?_ (h ⟨sl,h2⟩ (iE ..));show(if(f b).size>ie then some "bytearray:memory" else none)=none;erw[aj (if_neg (Gp [(av,aW),(zs aW,av)] rt d))];rfl
theorem GY:ny (.type "bytearray") "__release_buffer__"=pure (some (.builtin "bytearray.__release_buffer__")):=by rewrite[dC];refine' aj bZ ?_;kernel_rfl
theorem uZ:ny (.type "bytearray") "__buffer__"=pure (some (.builtin "bytearray.__buffer__")):=by rewrite[dC];refine' aj bZ ?_;kernel_rfl
theorem Wa:Builtin.Bytes.bindOptional "bytearray.__init__" "bytearray" ["source","encoding","errors"] [] []=pure [none,none,none]:=by kernel_rfl
theorem Lo:("bytearray.__release_buffer__".endsWith ("." ++ "__release_buffer__"))=true:=by decide+kernel
theorem KJ:("bytearray.__buffer__".endsWith ("." ++ "__buffer__"))=true:=by decide+kernel
theorem Mn: "bytearray.__release_buffer__".dropRight ("__release_buffer__".length+1)= "bytearray":=by decide+kernel
theorem KC: "bytearray.__buffer__".dropRight ("__buffer__".length+1)= "bytearray":=by decide+kernel
theorem kh.typ(h:kh s.heap a b):s.TypeIs (.ref a) "bytearray":=let⟨_,ho⟩:=h;⟨_,ho,rfl⟩
theorem Ji(c:kh s.heap a b)(h:Q true s):bP M A (nC (.ref a) "__release_buffer__") Q Ex s:=by
 refine wpAny_bind (wpAny_specialOf c.typ GY ?_);show bP M A (if(!"bytearray.__release_buffer__".endsWith ("." ++ "__release_buffer__"))=true then _ else _) _ _ _;erw[aj Lo,nE,aj Mn,<-wpAny_isInstance c.typ sub h]
theorem Lw(c:kh s.heap a b)(h:Q true s):bP M A (nC (.ref a) "__buffer__") Q Ex s:=by
 refine wpAny_bind (wpAny_specialOf c.typ uZ ?_);show bP M A (if(!"bytearray.__buffer__".endsWith ("." ++ "__buffer__"))=true then _ else _) _ _ _;erw[aj KJ,nE,aj KC,<-wpAny_isInstance c.typ sub h]
theorem wc(c:kh s.heap a b)(h:Q false s):bP M A (Builtin.Bytes.ownRelease (.ref a)) Q Ex s:=by
 exact wpAny_bind (Ji c (wpAny_pure h))
theorem BU(d:kh s.heap a b)(h:Q b s):bP M A (Builtin.Bytes.payload (.ref a)) Q Ex s:=by
 erw[bf d,(sl c),<-wpAny_bind (wpAny_bind (wpAny_load c (wpAny_pure (wpAny_pure h))))]
theorem K5{id:String}(c:kh s.heap a b)(h:Q (some b) s):bP M A (jx id (.ref a) full) Q Ex s:=by
 erw[<-wpAny_bind (wpAny_specialOf c.typ uZ ?_),<-wpAny_bind (Lw c ?_),nE,<-wpAny_bind (wpAny_specialOf c.typ uZ ?_),<-wpAny_bind (wc c ?_),nE,<-wpAny_bind (BU c (wpAny_pure h))]
theorem Gm{id:String}(n:rU.contains id=false)(c:plainId id=true)(d:entryFor table id=some b)(h:bN (model af w) A.in1 (b args) (λa s'=>match a with| .done f=>R (.ok f) s'| .again c'=>c'.quiet=true/\dU (model af w) A c' R s') (λe s'=>R (.error e) s') s):dU (model af w) A (.builtin id args) R s:=by
 erw[gJ (by show(!rU.contains id)=true;erw[aj n];rfl),aj (ud c args)];show bN _ _ (match entryFor table id with|some b=>b args|none=>yT ((withoutEnding? id "#data").getD id)) _ _ s;erw[aj d,<-h]
theorem uO{id:String}(n:rU.contains id=false)(c:entryFor table id=some b)(h:bN (model af w) (A.under (.builtin id args)) (b args) (λa s'=>match a with| .done f=>R (.ok f) s'| .again c'=>c'.quiet=true/\dU (model af w) A c' R s') (λe s'=>R (.error e) s') s):dU (model af w) A (.builtin id args) R s:=by
 erw[gJ (by show(!rU.contains id)=true;erw[aj n];rfl)];show bN _ _ (match entryFor table id with|some b=>b args|none=>yT ((withoutEnding? id "#data").getD id)) _ _ s;erw[aj c,<-h]
theorem lM{id:String}(n:rU.contains id=false)(c:plainId id=true)(g:entryFor table id=some b)(h:bP (model af w) A.in1 (checkBuiltinCall id args) (λ_ d=>bN (model af w) A.in1 (b args) (λa s'=>match a with| .done f=>R (.ok f) s'| .again c'=>c'.quiet=true/\dU (model af w) A c' R s') (λe s'=>R (.error e) s') d) (λe s'=>R (.error e) s') s):
  dU (model af w) A (.call (.builtin id) args) R s:=by
 erw[gJ rfl,<-az (p_mono (bc h) (λ_ d j=>bh (Hd (plainId_quiet c args) (Gm n c g j))) λ_ _ i=>i)]
theorem RE{S:Addr}(a:kh s.heap S b)(h:kh (s.heap.update S (gR λ_=>#[])) S #[]->d_ S s.heap (s.heap.update S (gR λ_=>#[]))->R (.ok (.ret .none)) {s with heap:=s.heap.update S (gR λ_=>#[])}):
  dU (model af w) A (.call (.builtin "bytearray.__init__") ⟨[.ref S],[]⟩) R s:=by
 erw[<-lM (by decide+kernel) xD.plain Gr (xD.check _ _ _ _ _ _ _ _ a.typ (JF _) ?_),<-az (bc (wc a ?_)),<-az (tV Wa (bh ?_)),<-az (tV rfl (bh ?_)),<-az (tV rfl (bh ?_)),<-az (az (AB ?_)),bf (id a),(sl c),<-az (bc ?_),<-wpAny_bind (wpAny_load c (wpAny_pure (bh ?_))),<-az (bc (xW a (hX _) λh1 h2=>bh (h h1 h2)))]
theorem tH(h:c=false):(if c=true then a else b)=b:=by refine' aj h ?_;rfl
theorem Sl(h:∀a,(∀b o,s.heap.get? b=some o->a.get? b=some o)->kh a s.heap.objs.size #[]->Q (.ref s.heap.objs.size) {s with heap:=a}):bN (model af w) A (call (.type "bytearray") []) Q Ex s:=by
 erw[<-sg (gJ rfl ?_),<-bh ⟨Code.quiet_builtin _ (by decide+kernel),uO (by decide+kernel) F.entry_type_call ?_⟩];unfold Builtin.«type.__call__»;show bN _ _ (if(((Manifest.find? "bytearray").bind (·.mro.findSome? λt=>(Manifest.find? t).bind λb=>if b.noNew then some true else if b.attrs.any (·.1== "__new__") then some false else none)).getD false)=true then _ else _) _ _ _;erw[<-az (tV typeCall (bh ?_)),<-az (tV mro (bh ?_)),<-az (tV made (bh ?_))];show bN _ _ (holding [.builtin "bytearray.__new__"] (call (.builtin "bytearray.__new__") [.type "bytearray"] []) >>= λ_=>_) _ _ _;refine az (bK (bc (wpAny_call (codeAny_mono (J7 (Q₁:=λv c=>v=.ref s.heap.objs.size/\c={s with heap:=s.heap.push {cls:=.type "bytearray",data:=.bytearray #[]}}) (Ex:=λ_ _=>False) ⟨rfl,rfl⟩) λr c z=>?_))));rcases r with e|(v|_|_|v)
 ·exact z.elim
 ·exact z.elim
 ·exact z.elim
 ·exact z.elim
 erw[aD z,(m l)];subst m;subst l;have f:kh (s.heap.push {cls:=.type "bytearray",data:=.bytearray #[]}) s.heap.objs.size #[]:=⟨#[],dv _ rfl⟩;erw[<-az (bc (wpAny_isInstance f.typ sub ?_)),<-az (bK ?_),<-az (bc (wpAny_specialOf f.typ xD.lookup ?_)),bK,<-az (bh (az (sg (kP (RE f (R:=λr c=>r=.ok (.ret .none)/\∃a,c={s with heap:=a}/\(∀b o,s.heap.get? b=some o->a.get? b=some o)/\kh a s.heap.objs.size #[]) ?_) λr c z=>?_))))]
 ·erw[(h1 h2),<-⟨rfl,_,rfl,λb o e=>?_,h1⟩];have i:b≠s.heap.objs.size:=λq=>by subst q;rw[none_at_size] at e;injection e
  exact(h2.2 b i).trans (bB _ e)
 ·erw[aD z,(j p)];subst j;erw[cX p,(a g k d)];subst g;exact bh (bh (h a k d))
theorem sy:Slot "bytearray" "append" "bytearray.append":=
 .of (owner:= "bytearray") (n:= "append") (by rewrite[dC];erw[aj bZ];kernel_rfl) (by decide+kernel) (by decide+kernel) (by decide+kernel)
  (by first|exact .inl (by decide+kernel)|exact .inr (by decide+kernel)) (by rw[qY];kernel_rfl)
theorem sD:Slot "bytearray" "extend" "bytearray.extend":=
 .of (owner:= "bytearray") (n:= "extend") (by rewrite[dC];erw[aj bZ];kernel_rfl) (by decide+kernel) (by decide+kernel) (by decide+kernel)
  (by first|exact .inl (by decide+kernel)|exact .inr (by decide+kernel)) (by rw[qY];kernel_rfl)
theorem DW:typeOf (.builtin "bytearray.append")=pure (.type "method_descriptor"):=by first|rfl|kernel_rfl
theorem Ey:typeOf (.builtin "bytearray.extend")=pure (.type "method_descriptor"):=by first|rfl|kernel_rfl
theorem CR:entryFor table "bytearray.append"=some Builtin.«bytearray.append»:=by first|exact nA (by kernel_rfl)|exact nB (by kernel_rfl)
theorem CX:entryFor table "bytearray.extend"=some Builtin.«bytearray.extend»:=by first|exact nA (by kernel_rfl)|exact nB (by kernel_rfl)
theorem Et(a b:Value):argsOk "bytearray.append" ⟨[a,b],[]⟩:=by unfold argsOk;kernel_rfl
theorem Ep(a b:Value):argsOk "bytearray.extend" ⟨[a,b],[]⟩:=by unfold argsOk;kernel_rfl
theorem jq:ny (.type "bytes") "__buffer__"=pure (some (.builtin "bytes.__buffer__")):=by rewrite[dC];refine' aj bZ ?_;kernel_rfl
theorem DG:ny (.type "bytes") "__release_buffer__"=pure none:=by rewrite[dC];refine' aj bZ ?_;kernel_rfl
theorem I_:("bytes.__buffer__".endsWith ("." ++ "__buffer__"))=true:=by decide+kernel
set_option linter.deprecated false in
theorem Jl: "bytes.__buffer__".dropRight ("__buffer__".length+1)= "bytes":=by decide+kernel
theorem Nq{S:Addr}(a:kh s.heap S b)(h0:0<=i)(h1:i<256)(f:b.size<ie)(h:∀c,kh c S (b.push i.toNat.toUInt8)->d_ S s.heap c->Q .none {s with heap:=c}):bN (model af w) A (call (.builtin "bytearray.append") [.ref S,.int i t]) Q Ex s:=by
 erw[<-sg (lM (by decide+kernel) sy.plain CR (sy.check _ _ _ _ _ _ _ _ a.typ (Et _ _) ?_)),<-az (tV rfl (bh ?_)),<-az (az (tV rfl (bh ?_)))];have g:(decide (i<0) ||decide (i≥256))=false:=by simp only[Bool.or_eq_false_iff,decide_eq_false_iff_not];exact⟨λe=>UW [(yn 0,cN),(ys cN,yn 0)] rt h0 e,λd=>UW [(ys cN,yn 256),(yn 256,cN)] rt h1 d⟩
 erw[aj (tH g),bh,<-az (uH a ?_),<-az (bc (xW a (by rw[Array.size_push];exact W4 f) λh1 h2=>bh (h _ h1 h2)))]
theorem MH(h:Q true s):bP (model af w) A (nC (.bytes c t) "__buffer__") Q Ex s:=by
 refine wpAny_bind (wpAny_specialOf (typeIs_bytes _ c t) jq ?_);show bP _ A (if(!"bytes.__buffer__".endsWith ("." ++ "__buffer__"))=true then _ else _) _ _ _;erw[aj I_,nE,aj Jl,<-wpAny_isInstance (typeIs_bytes _ c t) F.bm_sub h]
theorem Jp{id:String}(h:Q (some c) s):bP (model af w) A (jx id (.bytes c t) full) Q Ex s:=by
 erw[<-wpAny_bind (wpAny_specialOf (typeIs_bytes _ c t) jq ?_),<-wpAny_bind (MH ?_),nE,<-wpAny_bind (wpAny_specialOf (typeIs_bytes _ c t) jq ?_),<-wpAny_bind (wpAny_bind (wpAny_bind (wpAny_specialOf (typeIs_bytes _ c t) DG (wpAny_pure (wpAny_pure ?_))))),nE,<-wpAny_bind (wpAny_of_eq rfl (wpAny_pure h))]
theorem Km{id:String}(h:Q (some (c,none)) s):bP (model af w) A (Builtin.Bytes.takeBufferQuiet? id (.bytes c t) 0) Q Ex s:=by
 erw[<-wpAny_bind (wpAny_attempt ?_),<-wpAny_bind (wpAny_specialOf (typeIs_bytes _ c t) jq ?_),<-wpAny_bind (MH ?_),nE,<-wpAny_bind (wpAny_specialOf (typeIs_bytes _ c t) jq ?_),<-wpAny_bind (Jp (wpAny_pure (wpAny_pure h)))]
theorem Ki{S:Addr}(g:kh s.heap S b)(j:b.size+c.size<=ie)(h:∀i,kh i S (b++c)->d_ S s.heap i->Q .none {s with heap:=i}):bN (model af w) A (call (.builtin "bytearray.extend") [.ref S,.bytes c t]) Q Ex s:=by
 erw[<-sg (lM (by decide+kernel) sD.plain CX (sD.check _ _ _ _ _ _ _ _ g.typ (Ep _ _) ?_)),<-az (tV rfl (bh ?_)),<-az (bc (wpAny_specialOf (typeIs_bytes _ c t) jq ?_)),<-az (FZ ?_),<-az (bc (BU g ?_)),<-az (bc (Km ?_))];show bN _ _ (if(none:Option Value).isNone=true then _ else _) _ _ _;have a:bN (model af w) A.in1 (do qZ (.ref S) (· ++c);ret .none) (λa d=>match a with| .done f=>(match Except.ok f with| .ok (.ret v)=>Q v d| .ok _=>False| .error e=>Ex e d)| .again c'=>c'.quiet=true/\dU (model af w) A c' (λr d=>match r with| .ok (.ret v)=>Q v d| .ok _=>False| .error e=>Ex e d) d) (λe d=>Ex e d) s:=by
  exact az (bc (xW g (aj Array.size_append j) λh1 h2=>bh (h _ h1 h2)))
 show bN _ _ (if(!c.isEmpty)=true then(x9 (.ref S) >>= λ_=>(do qZ (.ref S) (· ++c);ret .none)) else(do qZ (.ref S) (· ++c);ret .none)) _ _ _;cases k:(!c.isEmpty)
 ·exact a
 ·exact az (uH g a)
end BA
namespace BA
theorem Kj:ny (.type "bytearray") "__bytes__"=pure none:=by rewrite[dC];refine' aj bZ ?_;kernel_rfl
theorem noindex:ny (.type "bytearray") "__index__"=pure none:=by rewrite[dC];refine' aj bZ ?_;kernel_rfl
theorem UE:ny (.type "bytes") "__bytes__"=pure (some (.builtin "bytes.__bytes__")):=by rewrite[dC];refine' aj bZ ?_;kernel_rfl
theorem UJ{S:Addr}(h:kh s.heap S b)(c:b.size<=ie)(a:Q (.bytes b s.toks) {s with toks:=s.toks+1}):
  codeAny (model af w) A (.call (.builtin "bytes.__new__") ⟨[.type "bytes",.ref S],[]⟩) (wants Q Ex) s:=by
 erw[Fh];show bP _ A.in1 (do checkBuiltinCall "bytes.__new__" ⟨[.type "bytes",.ref S],[]⟩;again (.builtin "bytes.__new__" ⟨[.type "bytes",.ref S],[]⟩)) _ _ s;erw[<-wpAny_bind (wpAny_of_eq (F.bm_newCall _) (wpAny_pure ⟨plainId_quiet Fi _,Fj F.bm_entry ?_⟩)),aj (ud Fi _),bf (id h),(sl d)];unfold Builtin.«bytes.__new__»;erw[<-wpAny_bind (wpAny_of_eq rfl ?_),iF rfl,<-wpAny_bind (wpAny_of_eq F.bm_sub ?_),iF rfl,<-wpAny_bind (wpAny_of_eq (F.bm_bind _) ?_),<-wpAny_bind (wpAny_of_eq rfl ?_),<-wpAny_bind (wpAny_of_eq rfl ?_),iF rfl,<-wpAny_bind (wpAny_specialOf h.typ Kj ?_),<-wpAny_bind (wpAny_bind ?_),<-wpAny_bind (wpAny_load d ?_),<-wpAny_pure (wpAny_pure ?_),iF rfl,<-wpAny_bind (wpAny_specialOf h.typ noindex ?_),q0 rfl]
 first
  |show bP _ _ (jx "bytes.__new__" (.ref S) true>>= _) _ _ _
  |(refine wpAny_bind ?_;show bP _ _ (jx "bytes.__new__" (.ref S) true>>= _) _ _ _)
 erw[<-wpAny_bind (K5 h ?_),<-wpAny_bind (wpAny_rule ?_),<-wpAny_bind (wpAny_mkBytes ?_ c),q0 (dc rfl)]
 first
  |exact wpAny_pure a
  |exact wpAny_bind (wpAny_pure (wpAny_pure a))
  |exact wpAny_bind (wpAny_pure a)
theorem RK(h:Q (.bytes b t) s):
  codeAny (model af w) A (.call (.builtin "bytes.__new__") ⟨[.type "bytes",.bytes b t],[]⟩) (wants Q Ex) s:=by
 erw[Fh];show bP _ A.in1 (do checkBuiltinCall "bytes.__new__" ⟨[.type "bytes",.bytes b t],[]⟩;again (.builtin "bytes.__new__" ⟨[.type "bytes",.bytes b t],[]⟩)) _ _ s;erw[<-wpAny_bind (wpAny_of_eq (F.bm_newCall _) (wpAny_pure ⟨plainId_quiet Fi _,Fj F.bm_entry ?_⟩)),aj (ud Fi _)];unfold Builtin.«bytes.__new__»;erw[<-wpAny_bind (wpAny_of_eq rfl ?_),iF rfl,<-wpAny_bind (wpAny_of_eq F.bm_sub ?_),iF rfl,<-wpAny_bind (wpAny_of_eq (F.bm_bind _) ?_),<-wpAny_bind (wpAny_of_eq rfl ?_),<-wpAny_bind (wpAny_of_eq rfl ?_),iF rfl,<-wpAny_bind (wpAny_specialOf (typeIs_bytes _ b t) UE ?_),<-wpAny_bind (wpAny_rule ?_),<-wpAny_bind (wpAny_typeOf (typeIs_bytes _ b t) ?_),q0 (dc rfl),q0 (dc rfl)]
 first
  |exact wpAny_pure h
  |exact wpAny_bind (wpAny_pure (wpAny_pure h))
  |exact wpAny_bind (wpAny_pure h)
theorem Ba{S:Addr}(d:kh s.heap S b)(h:b.size<=ie)(e:Q (.bytes b s.toks) {s with toks:=s.toks+1}):bP (model af w) A (call (.type "bytes") [.ref S]) Q Ex s:=by
 erw[callType_codes (Q₁:=λo a=>a.TypeIs o "bytes" /\Q o a) rh (F.bm_typeCall _) F.entry_object_init (UJ d h ⟨typeIs_bytes _ _ _,e⟩),(o a c),<-⟨c.1,F.args_object_init_2 o _,object_init_meets rh.init.lookup rh.made (dc rfl) af w A.in1 _ a ⟨c.1,rfl,c.2⟩⟩]
theorem Bc(h:Q (.bytes b t) s):bP (model af w) A (call (.type "bytes") [.bytes b t]) Q Ex s:=by
 erw[callType_codes (Q₁:=λo a=>a.TypeIs o "bytes" /\Q o a) rh (F.bm_typeCall _) F.entry_object_init (RK ⟨typeIs_bytes _ _ _,h⟩),(o a c),<-⟨c.1,F.args_object_init_2 o _,object_init_meets rh.init.lookup rh.made (dc rfl) af w A.in1 _ a ⟨c.1,rfl,c.2⟩⟩]
end BA
namespace BA
theorem xO:Slot "bytes" "join" "bytes.join":=
 .of (owner:= "bytes") (n:= "join") (by rewrite[dC];erw[aj bZ];kernel_rfl) (by decide+kernel) (by decide+kernel) (by decide+kernel)
  (by first|exact .inl (by decide+kernel)|exact .inr (by decide+kernel)) (by rw[qY];kernel_rfl)
theorem IP:typeOf (.builtin "bytes.join")=pure (.type "method_descriptor"):=by first|rfl|kernel_rfl
theorem GZ:entryFor table "bytes.join"=some Builtin.«bytes.join»:=by first|exact nA (by kernel_rfl)|exact nB (by kernel_rfl)
theorem IJ(a b:Value):argsOk "bytes.join" ⟨[a,b],[]⟩:=by unfold argsOk;kernel_rfl
inductive qC:List Value->List (Array UInt8)->Prop
 |nil:qC [] []
 |cons (b:Array UInt8) (t:Tok) {vs bs}:qC vs bs->qC (.bytes b t::vs) (b::bs)
theorem qC.length(r:qC vs bs):vs.length=bs.length:=by
 induction r with
 |nil=>rfl
 |cons b t _ i=>exact congrArg (· +1) i
theorem qC.at(r:qC vs bs):∀{i:Nat},bs[i]?=some b->∃t,vs[i]?=some (.bytes b t):=by
 induction r with
 |nil=>exact λ{i} h=>absurd (List.getElem?_nil.symm.trans h) (λq=>nomatch q)
 |cons c t _ a=>exact λ{i}=>i.casesOn (λh=>⟨t,congrArg (λc=>some (Value.bytes c t)) (bV h)⟩) λi h=>a h
theorem qC.PH(i:Nat)(r:qC vs bs):((vs.take i).map λv=>((v,none):Value×Option Value)).any (·.1.onHeap)=false:=by
 induction r generalizing i with
 |nil=>cases i<;>rfl
 |cons b t _ a=>exact i.casesOn rfl λi=>a i
theorem G6(b:List (Array UInt8)):A4 #[] b=b.foldl (· ++ ·) #[]:=by
 unfold A4;have k:∀(l:List (Array UInt8)) n c,(l.zipIdx n).foldl (λo (p,i)=>(if i>0 then o++#[] else o)++p) c=l.foldl (· ++ ·) c:=by
  intro l
  induction l with
  |nil=>intros;rfl
  |cons a l d=>
   erw[(n c),aj List.zipIdx_cons,aj tO,aj tO];rewrite[d]
   congr 1
   show(if n>0 then c++#[] else c)++a=c++a
   split<;>simp
 exact k b 0 #[]
theorem BV(b:List (Array UInt8))(c:Array UInt8):(b.foldl (· ++ ·) c).toList=c.toList++(b.map nG).flatten:=by
 induction b generalizing c with
 |nil=>simp
 |cons a l i=>refine' aj tO ?_;rewrite[i];simp
theorem Yc(d:List (Array UInt8))(c:Nat):d.foldl (λn b=>n+b.size) c=c+(d.map nG).flatten.length:=by
 induction d generalizing c with
 |nil=>simp
 |cons a l i=>refine' aj tO ?_;rewrite[i];simp;exact Xb
theorem yI{M:Model}(h:Q () s):∀(l:List Value),bP M A (Builtin.Bytes.joinLetGo (l.map λv=>((v,none):Value×Option Value)) keep) Q Ex s
 |[]=>wpAny_pure h
 |x::r=>by
  simp only[dr];exact wpAny_bind (wpAny_letGo (yI h r))
theorem RY{B:Array Value->Sem γ}{P:Sem γ->Prop}(h1:∀x,items.toList=[x]->P (F x))(h2:P (B items)):P (Builtin.Bytes.joinM.match_1 (λ_=>Sem γ) items F B):=by
 rcases items with⟨_|⟨x,_|⟨y,r⟩⟩⟩
 ·exact h2
 ·exact h1 x rfl
 ·exact h2
set_option maxHeartbeats 1000000 in
theorem IU(hl:s.heap.IsList a items)(d:qC items.toList bs)(q:(bs.map nG).flatten.length<=ie)(y:∀t' k,Q (.bytes (bs.foldl (· ++ ·) #[]) t') {s with toks:=k}):bP (model af w) A (call (.builtin "bytes.join") [.bytes #[] t,.ref a]) Q Ex s:=by
 erw[<-wpAny_call (codeAny_call_builtin xO.plain GZ (xO.check _ _ _ _ _ _ _ _ (typeIs_bytes _ _ _) (IJ _ _) ?_)),cX (id hl),(o l G D),bf D,(F n)];unfold Builtin.«bytes.join» Builtin.Bytes.joinM;erw[<-wpAny_bind (wpAny_of_eq rfl ?_),wpAny_bind];unfold Builtin.Bytes.joinItems;erw[<-wpAny_bind (wpAny_typeOf hl.typeIs ?_),<-q0 rfl (wpAny_pure ?_),<-wpAny_bind (wpAny_seqItems l n ?_),q0 rfl];have z:=d.length;erw[RY (P:=λm=>bP _ _ m _ _ _) (λx C=>?_)]
 ·rw[C] at d;cases d with
  |cons b t0 d=>
   cases d;erw[<-wpAny_bind (wpAny_typeOf (typeIs_bytes _ _ _) ?_),q0 rfl,<-wpAny_bind (wpAny_rule (wpAny_pure ?_))];have:=y t0 s.toks
   simpa using this
 ·erw[wpAny_bind];rw[Std.Legacy.Range.forIn_eq_forIn_range'];refine wpAny_forIn_list _ (λr b g=>g=s/\∃i,i<=items.size/\r=List.range' i (items.size-i)/\b=((bs.take i).toArray,(items.toList.take i).map λv=>(v,none))) _ ?_ ?_ _ _ ?_
  ·rintro x r b g ⟨rfl,i,hi,hr,rfl⟩
   have c:i<items.size:=by
    rcases Nat.lt_or_ge i items.size with h|h
    ·exact h
    ·rw[Nat.sub_eq_zero_of_le h] at hr;cases hr
   obtain ⟨j,f⟩:∃j,items.size-i=j+1:=⟨items.size-i-1,aaK c⟩
   rw[f,List.range'_succ] at hr;injection hr with h1 h2
   have Y:=h1.symm;subst Y;have e:=(have this:=(by simp);aam c this z);erw[bf (d.at (bx e)),(B u)];have p:items.getD i lg=.bytes bs[i] B:=by
    erw[aj (Array.getD_eq_getD_getElem?),c_ (Array.getElem?_toList),aj u];rfl
   refine wpAny_bind (wpAny_seqItems l n ?_);dsimp only;erw[aj p,iF (aj (d.PH i) rfl),<-wpAny_bind (wpAny_holding (Km ?_)),<-wpAny_bind (wpAny_seqItems l n ?_),iF (by simp),<-wpAny_pure ⟨rfl,i+1,c,?_,?_⟩]
   ·erw[aj h2,aj (show items.size-(i+1)=j by exact abd f)];rfl
   ·congr 1
    ·erw[aj iG,aj (bx e)];simp
    ·erw[aj iG,aj u];simp
  ·rintro b g ⟨rfl,i,hi,hr,rfl⟩
   have:i=items.size:=by
    have:=congrArg cF hr
    simp at this
    exact aaD this hi
   subst this;have e1:bs.take items.size=bs:=d5 (have this:=(by simp);abT z this);have e2:items.toList.take items.size=items.toList:=d5 (by simp);dsimp only;erw[aj e1,aj e2,<-wpAny_bind (wpAny_of_eq rfl ?_)];have f:=G6 bs;have E:(bs.foldl (· ++ ·) #[]).size=(bs.map nG).flatten.length:=by
    erw[c_ vH];rewrite[BV];simp
   refine iF ?_ ?_
   ·unfold Builtin.Bytes.tooLong;simp only[decide_eq_false_iff_not];have:=Yc bs 0;simp only[List.foldl_toArray',Array.size_empty,Nat.zero_mul];erw[aj this,<-abg q]
   ·erw[wpAny_bind,aj f,<-wpAny_mkBytes ?_ (aj E q),<-wpAny_bind (wpAny_holding (wpAny_point (wpAny_bind ?_))),<-yI ?_ items.toList,<-wpAny_pure (y _ _)]
  ·exact⟨rfl,0,hX _,by simp[List.range'_eq_map_range,Std.Legacy.Range.size],by simp⟩
end BA
theorem Co(x:t_ G h a (.cZ b)):∃f,BA.kh h a f/\f.toList=b:=by
 erw[fX x,(m f l j k e)];rcases m with⟨c,d,dt,sl⟩
 erw[aD k,(i g)];simp only at j i g;subst j;subst i;subst g;exact⟨f,⟨sl,l⟩,e⟩
theorem kh.CM(x:BA.kh h a b')(e:b'.toList=b):t_ G h a (.cZ b):=let⟨_,ho⟩:=x;⟨_,b',ho,rfl,⟨rfl,rfl⟩,e⟩
theorem FO(l:List Int):(byteArr l).toList=toBytes l:=by unfold byteArr toBytes;rfl
theorem Ja(f:A.handled=none)(r:c9 s.heap a x)(S:Sat K N au ρ B ak os H s)(h:jG .bytes [x] H Q):bP (model af w) A (call (.type "bytes") [a]) (PV K N au ρ B ak os Q) Ex s:=by
 induction x using V.casesOn with
 |ref b=>
  have e:=r.inv;subst e;have h:(match H b with|some (.cZ b)=>b.length<=1000000/\Q (.bytes b) H|_=>jV H b λv=>∃l,kT v=some l/\(∀i∈l,0<=i/\i<256)/\l.length<=1000/\Q (.bytes (toBytes l)) H):=h;cases e:H b with
  |none=>rw[e] at h;unfold jV at h;rw[e] at h;exact h.elim
  |some m=>
   rw[e] at h
   induction m using MO.casesOn with
   |cZ n=>
    erw[ay (Co (S.h.rel.obj b _ e)),(z g e2),BA.Ba g (aj sizeLine_eq (c_ vH (aj e2 (aH h.1 (dc rfl))))),<-⟨_,H,.bytes _ _,?_,S.tok _⟩,aj e2,<-h.2]
   |inst C y=>unfold jV at h;rw[e] at h;exact h.elim
   |list v=>
    unfold jV at h;rw[e] at h;erw[fc h,(o h1 h2 h3 q)]
    obtain rfl:=wC h1
    erw[ay (eR S e),(D hl r)];have j:=r.length;erw[call_bytes_ints hl (intsAre_of r) h2 (by erw[aj j];rewrite[aq];erw[aj sizeLine_eq,<-dK h3 rfl]) f,(u t k d),<-⟨_,H,.bytes _ _,?_,S.grow d S.h.gens S.h.os⟩];rw[FO];exact q
 |bytes b=>
  erw[dg r.inv,(n t c p)];subst c;subst p;exact BA.Bc ⟨_,H,.bytes _ _,h,S⟩
 |_=>exact h.elim
theorem J_(S:Sat K N au ρ B ak os H s)(h:jG .cZ [] H Q):bN (model af w) A (call (.type "bytearray") []) (PV K N au ρ B ak os Q) Ex s:=by
 erw[BA.Sl,(b k a),<-⟨_,_,.ref _,h.2 _ S.fresh,S.new k (none_at_size _) rfl (kh.CM a rfl) S.h.gens S.h.os⟩]
noncomputable def YC:Ff->Bool
 | .fn _=>false
 | .cls _ _=>false
 |_=>true
theorem YN(r:bU h aQ vs)(q:Pg vs f):∃a v,vs=[.ref a]/\aQ=[v]/\c9 h v (.ref a)/\f a:=by
 erw[ay (Ug q),(a t q)];subst t;erw[df r.inv,(v vs x c b)];subst x;have e:=b.Pb;subst e;exact⟨a,v,rfl,rfl,c,q⟩
theorem sZ(r:bU h aQ [x]):∃v,aQ=[v]/\c9 h v x:=by
 erw[df r.inv,(v c C b a)];subst C;have e:=a.Pb;subst e;exact⟨v,rfl,b⟩
theorem D_(f:YC c=true)(d:A.handled=none)(r:bU s.heap aQ vs)(S:Sat K N au ρ B ak os H s)(h:jG c vs H Q):bN (model af w) A (call (GC c) aQ) (PV K N au ρ B ak os Q) Ex s:=by
 induction c using Ff.casesOn with
 |fn=>injection f
 |cls=>injection f
 |len=>
  obtain ⟨x,rfl⟩:∃x,vs=[x]:=by
   induction vs using lcs with
   |nil=>exact h.elim
   |cons x l=>induction l using lcs with
    |nil=>exact⟨x,rfl⟩
    |cons=>induction x using V.casesOn<;>exact h.elim
  erw[ay (sZ r),(v E b)];subst E;exact bc (Pn b S h)
 |bytes=>
  obtain ⟨x,rfl⟩:∃x,vs=[x]:=by
   induction vs using lcs with
   |nil=>exact h.elim
   |cons x l=>induction l using lcs with
    |nil=>exact⟨x,rfl⟩
    |cons=>induction x using V.casesOn<;>exact h.elim
  erw[ay (sZ r),(v D b)];subst D;exact bc (Ja d b S h)
 |cZ=>
  erw[aD h];clear h;intro g h;subst g;have e:=r.Pb;subst e;exact J_ S ⟨rfl,h⟩
 |sorted=>refine fX (YN r h) ?_;intro a v z p b _;subst z;subst p;exact bc (FC b S h)
 |tuple=>refine fX (YN r h) ?_;intro a v C F b _;subst C;subst F;exact bc (Jh b S h)
 |list=>refine fX (YN r h) ?_;intro a v G n b _;subst G;subst n;exact bc (Lh b S h)
 |sum=>refine fX (YN r h) ?_;intro a v o k b _;subst o;subst k;exact bc (Py d b S h)
 |min=>
  obtain ⟨x,y,rfl⟩:∃x y,vs=[x,y]:=by
   induction vs using lcs with
   |nil=>exact h.elim
   |cons x l=>induction l using lcs with
    |nil=>induction x using V.casesOn<;>exact h.elim
    |cons y l=>induction l using lcs with
     |nil=>exact⟨x,y,rfl⟩
     |cons=>induction x using V.casesOn<;>cases y<;>exact h.elim
  erw[df r.inv,(v vs m b j)];subst m;erw[ay (sZ j),(q L i)];subst L;exact bc (OH d b i S h)
theorem uU:PlainAttrs "bytearray":=
 ⟨⟨"bytearray.__getattribute__",by rewrite[dC];erw[aj bZ];kernel_rfl,by decide+kernel⟩,by rewrite[dC];erw[aj bZ];kernel_rfl⟩
theorem Mf:∀m,m<18->∀k,k<27->zU m≠atName k:=by decide+kernel
theorem T8(X:K.In s.heap)(f:makesIn K C=true)(j:findIn K (.ref C) "__init__"=some (some (.ref fI)))(l:isFn K (.ref fI)=true)(h:dU (model af w) (A.under (.builtin "type.__call__" ⟨.ref C::aQ,[]⟩)) (.call (.ref fI) ⟨.ref (s.heap.objs.size+1)::aQ,[]⟩) (InitBack (s.heap.objs.size+1) R) {s with heap:=(s.heap.push ij).push (instObj C s.heap.objs.size)}):
  dU (model af w) A (.call (.ref C) ⟨aQ,[]⟩) R s:=by
 rcases s with⟨h₀,g,d,t,os⟩
 have Y:=makes_of (M:=model af w) X f;rcases id Y with⟨⟨oc,od,cd,sl,hC,e1,e2,e4⟩,made,dY,self,top,call,typ⟩
 erw[gJ rfl,<-az (bc (wpAny_load hC ?_))];unfold callAny.viaDunder;refine az (bc (call.at ?_));dsimp only;rw[tc_bind];erw[<-az (bh (az (bh ?_))),<-bh (Hd rfl ?_),gJ rfl];show bN _ A.in1 (do checkBuiltinCall "type.__call__" ⟨.ref C::aQ,[]⟩;again (.builtin "type.__call__" ⟨.ref C::aQ,[]⟩)) _ _ _;refine az (bc (check_slot tc_kind tc_split typ (tc_args _ _ _) (bh (Hd (Code.quiet_builtin _ (by decide+kernel)) (BA.uO (by decide+kernel) entry_typeCall ?_)))));unfold Builtin.«type.__call__»;have a:Looks (model af w) h₀ (mroOf (.ref C)) cd.mro:=((Looks.ld hC).andThen .now).andThen .now;show bN _ _ (if(iq C==Value.type "type")=true then _ else _) _ _ _;erw[aj (BA.tH rfl),<-az (bc (a.at ?_)),aj (BA.tH e4),<-az (bc (made.at ?_))];show bN _ _ (holding [.builtin "object.__new__"] (PySem.call (.builtin "object.__new__") (.ref C::aQ) []) >>= λ_=>_) _ _ _;have L:=looks_findIn (M:=model af w) X j;refine az (bK (bc (wpAny_call (new_K Y L (.inl rfl) ?_))));have k:∀b o,h₀.get? b=some o->((h₀.push ij).push (instObj C h₀.objs.size)).get? b=some o:=λb o e=>bB _ (bB _ e);have c:((h₀.push ij).push (instObj C h₀.objs.size)).get? (h₀.objs.size+1)=some (instObj C h₀.objs.size):=by heap_get
 have t1:Looks (model af w) ((h₀.push ij).push (instObj C h₀.objs.size)) (typeOf (.ref (h₀.objs.size+1))) (.ref C):=(Looks.ld c).andThen .now;have s1:=self.keeps k;have i:=L.keeps k;have n:Looks (model af w) ((h₀.push ij).push (instObj C h₀.objs.size)) (bindSpecial (.ref fI) (.ref (h₀.objs.size+1))) (.ref fI,[.ref (h₀.objs.size+1)]):=(bind_fn X _ (beq_iff_eq.mp l)).keeps k;erw[<-az (bc ((t1.andThen s1:Looks _ _ (isInstance _ _) _).at ?_)),aj (BA.tH (show(!true)=false from rfl)),<-az (bK ?_)];unfold callSpecial?;erw[<-az (bc ((t1.andThen i).at ?_)),<-bK (az (bc (n.at ?_))),<-az (sg (kP h λr p z=>?_))];rcases r with e|(v|_|_|v)<;>first|exact z|exact z.elim|skip
 erw[aD z];clear z;intro m z;subst m;exact bh (bh z)
theorem noStar:∀x p,ja m y≠.Starred x p:=λx p q=>Bool.noConfusion ((congrArg mW q).symm.trans (tE m y))
theorem fT:∀{ms:List E} {xs:List dh},(starEach (vI ms xs) au).any (·.1)=false
 |[],_=>rfl
 |m::ms,xs=>by
  erw[aj (kN noStar),aj List.any_cons,aj fT];rfl
theorem MN(h:dk af w K T n m ρ H Q X):gY af w K T n [m] ρ H (λvs a=>∃v,vs=[v]/\Q v a) X:=by
 have e:(λv a=>gY af w K T n [] ρ a (λvs c=>∃u,v::vs=[u]/\Q u c) X)=Q:=by
  funext v a
  exact propext ⟨λq=>by erw[ay (q:∃u,[v]=[u]/\Q u a),(u e q)];injection e with e _;erw[aj e,<-q],λq=>⟨v,rfl,q⟩⟩
 show dk af w K T n m ρ H (λv a=>gY af w K T n [] ρ a (λvs c=>∃u,v::vs=[u]/\Q u c) X) X;erw[aj e,<-h]
def Q1(Q:V->Hp->Prop)(aQ:List Value)(h:Heap)(H:Hp):Prop:=∃v x,aQ=[v]/\c9 h v x/\Q x H
theorem AN.one(h1:AN af w K T n N au A l ak os [m] t)(S:Sat K N au ρ B ak os H s)(h:dk af w K T n m ρ H Q X):
  bN (model af w) A t (PG K N au ρ B ak os (Q1 Q)) (PE K N au ρ B ak os l X) s:=
 p_mono (h1 _ _ _ _ _ _ S (MN h)) (λk j z=>by
  erw[ay z,(a g i),cX g,(b r _ f),ay (show ∃v,b=[v]/\Q v a from f),(v e q),ay (sZ (e▸r)),(c e d)];exact⟨a,⟨c,v,e,d,q⟩,i⟩) λ_ _ z=>z
theorem ki.CG(R:ki G H h)(k:∀b o,h.get? b=some o->h'.get? b=some o)(I:h.get? c=none)(A:h.get? d=none)(F:t_ G h' c (.inst C fs))(p:sG h' c=some d)(E:c≠d):
  ki G (upd H c (.inst C fs)) h'/\∀a,FP (upd H c (.inst C fs)) h' a->a=c\/a=d\/FP H h a:=by
 have B:=R.keep (jt.of_keeps k) (λ_ _=>id) (λ_ _ _=>id);have n:∀{x},h.get? x=none->H x=none:=λ{x} e=>by
  cases q:H x with
  |none=>rfl
  |some m=>refine ay ((R.obj _ _ q).pf) ?_;intro o s _;rw[e] at s;injection s
 have w:∀{x},eu (H x)=true->sG h' x=sG h x:=λ{x} l=>R.pH (S:=λ_=>False) (jt.of_keeps k) (eT l) id;have t:∀{x y},eu (H x)=true->sG h x=some y->h.get? y≠none:=λ{x y} l e q=>by
  erw[ay (R.own (.inr ⟨x,l,e⟩)),(o s _)];rw[q] at s;injection s
 have j:∀{x},x≠c->eu (upd H c (.inst C fs) x)=true->eu (H x)=true:=λ{x} l e=>by rwa [dp _ _ l] at e
 refine⟨⟨λa m e=>?_,λx y z l D h1 h2=>?_,λx z l h1=>?_⟩,λa f=>?_⟩
 ·by_cases q:a=c
  ·replace q:=q.symm;subst q;rw[cY] at e;injection e with e;subst e;exact F
  ·rw[dp _ _ q] at e;exact B.obj a m e
 ·by_cases i:x=c
  ·by_cases r:y=c
   ·erw[aj i,aj r];rfl
   ·replace i:=i.symm;subst i;rw[p] at h1;injection h1 with h1;subst h1
    have u:=j r D;rw[w u] at h2;exact absurd A (t u h2)
  ·by_cases r:y=c
   ·replace r:=r.symm;subst r;rw[p] at h2;injection h2 with h2;subst h2
    have g:=j i l;rw[w g] at h1;exact absurd A (t g h1)
   ·exact B.inj x y z (j i l) (j r D) h1 h2
 ·by_cases i:x=c
  ·replace i:=i.symm;subst i;rw[p] at h1;injection h1 with h1;subst h1
   erw[aj (dp _ _ (aJ E)),<-n A]
  ·have g:=j i l;have v:=h1;rw[w g] at v;have:z≠c:=λq=>by replace q:=q.symm;subst q;exact t g v I
   erw[aj (dp _ _ this),<-B.off x z g h1]
 ·rcases f with f|⟨x,l,h1⟩
  ·by_cases q:a=c
   ·exact .inl q
   ·rw[dp _ _ q] at f;exact .inr (.inr (.inl f))
  ·by_cases i:x=c
   ·replace i:=i.symm;subst i;rw[p] at h1;injection h1 with h1;subst h1;exact .inr (.inl rfl)
   ·have g:=j i l;rw[w g] at h1;exact .inr (.inr (.inr ⟨x,g,h1⟩))
theorem Sat.CG(S:Sat K N au ρ B ak os H s)(y:rP K C=true):
  Sat K N au ρ B ak os (upd H (s.heap.objs.size+1) (.inst C [])) {s with heap:=(s.heap.push ij).push (instObj C s.heap.objs.size)}/\H (s.heap.objs.size+1)=none:=by
 have k:∀b o,s.heap.get? b=some o->((s.heap.push ij).push (instObj C s.heap.objs.size)).get? b=some o:=λb o e=>bB _ (bB _ e);have r:((s.heap.push ij).push (instObj C s.heap.objs.size)).get? (s.heap.objs.size+1)=some (instObj C s.heap.objs.size):=by heap_get
 have Y:((s.heap.push ij).push (instObj C s.heap.objs.size)).get? s.heap.objs.size=some ij:=bB _ (dv _ rfl);have W:s.heap.get? (s.heap.objs.size+1)=none:=by
  cases q:s.heap.get? (s.heap.objs.size+1) with
  |none=>rfl
  |some o=>exact absurd (eO q) (tN.mpr (qp _))
 have c:=none_at_size s.heap;have w:H (s.heap.objs.size+1)=none:=by
  cases q:H (s.heap.objs.size+1) with
  |none=>rfl
  |some E=>refine ay ((S.h.rel.obj _ _ q).pf) ?_;intro o n _;rw[W] at n;injection n
 have u:=S.grow (s':={s with heap:=(s.heap.push ij).push (instObj C s.heap.objs.size)}) k S.h.gens S.h.os;have D:nT ((s.heap.push ij).push (instObj C s.heap.objs.size)) s.heap.objs.size []:=
  ⟨_,#[],0,Y,rfl,rfl,(λe v=>by simp at v),rfl,λk _=>rfl,λ_ _=>rfl⟩
 erw[aD (S.h.rel.CG k W c ⟨y,_,_,r,rfl,rfl,rfl,D⟩ (by unfold sG;erw[aj r];rfl) (Nat.succ_ne_self _)),(R F),<-⟨⟨⟨S.h.st,u.h.stays,R,λa f=>?_,λp l=>?_,S.h.gens,S.h.os⟩,S.f.keep (jt.of_keeps k) ((jt.of_keeps k).tup λ_ _ _=>id) (λ_ _=>id) λa o f=>?_⟩,w⟩]
 ·rcases F a f with rfl|rfl|f
  ·exact dF S.h.stays W
  ·exact dF S.h.stays c
  ·exact S.h.nO a f
 ·erw[dX (u.h.ak p l),(a b d e),<-⟨a,λf=>?_,d,e⟩,bf ((S.h.ak p l).2.2.2),(sl g)];rcases F _ f with q|q|f
  ·rw[q,W] at g;injection g
  ·rw[q,c] at g;injection g
  ·exact(S.h.ak p l).2.1 f
 ·have t:∃o,s.heap.get? a=some o:=by
   rcases o with rfl|⟨x,i,m,e⟩
   ·erw[ay S.f.ns,(_ z _),xN z,(o _ _ g _),<-⟨o,g⟩]
   ·erw[Cv (S.f.cell x i m),(G o j _ _ _ _ g _)];rw[e] at j;injection j with j;subst j;exact⟨o,g⟩
  erw[bf t,(A g)];rcases F _ f with rfl|rfl|f
  ·rw[W] at g;injection g
  ·rw[c] at g;injection g
  ·exact S.f.Ax o f
def PR(K:fg)(N:dH)(au:mq)(ρ:Loc)(B:Heap)(ak:List (Addr×Obj))(os:bL)(l:List mq)(Q:V->Hp->Prop)(X:Addr->Hp->Prop)(r:Dx)(s':Shared):Prop:=match r with
 | .ok (.ret v)=>PV K N au ρ B ak os Q v s'
 | .ok _=>False
 | .error e=>PE K N au ρ B ak os l X e s'
theorem callC(O:cU sc N au A l ak n)(g:Ar A' l n)(S:Sat K N au ρ B ak os H s)(r:bU s.heap aQ vs)(h:aY af w K n f vs H Q X):
  dU (model af w) A' (.call (.ref f) ⟨aQ,[]⟩) (PR K N au ρ B ak os l Q X) s:=by
 erw[fc S.Ck,(o k st T c),kP (h _ _ os l A' s aQ g (S.frames O) k (r.mono T)),(r m z)];rcases r with e|(v|_|_|v)
 ·erw[iR z,(i C j b e1 x a F),<-⟨i,C,j,b,e1,x,(S.rM c a).1,Way.down st F⟩]
 ·exact z
 ·exact z
 ·exact z
 ·erw[df z,(x b d q a),<-⟨x,b,d,q,(S.rM c a).1⟩]
theorem YM(O:cU sc N au A l ak n)(g:Kp K (.cls C i))(S:Sat K N au ρ B ak os H s)(r:bU s.heap aQ vs)(h:∀a,H a=none->aY af w K n i (.ref a::vs) (upd H a (.inst C [])) (λr D=>r=.none/\Q (.ref a) D) X):bN (model af w) A (call (.ref C) aQ) (PV K N au ρ B ak os Q) (PE K N au ρ B ak os l X) s:=by
 erw[iu g,(I u t p m),aD (S.CG m),(E y)];have k:∀b o,s.heap.get? b=some o->((s.heap.push ij).push (instObj C s.heap.objs.size)).get? b=some o:=λb o e=>bB _ (bB _ e);refine sg (T8 S.Br u t p (kP (callC O (O.ar.made _ _) E (.cons (.ref _) (r.mono (jt.tup (jt.of_keeps k) λ_ _ _=>id))) (h _ y)) λr G z=>?_));rcases r with e|(v|_|_|v)
 ·exact z
 ·exact z
 ·exact z
 ·exact z
 ·erw[df z];clear z;erw[(x F f d c),aD d];clear d;intro j q;subst j;cases f;exact⟨rfl,_,F,.ref _,q,c⟩
theorem SE.call(O:cU sc N au A l ak n)(k:TabsOk T K)(j:(x !=("__debug__":Str))=true)(d:(sc.lookup x==some .globalImplicit)=true)(e:T.glob x=some (.call c))(t:(starEach es au).any (·.1)=false)(h1:AN af w K T n N au A l ak os ms (spliced (backTo pos (starEach es au)))):SE af w K T n N au A l ak os (.call c ms) (eval (.Call (.Name x np) es [] pos) au):=by
 erw[(ρ B H s Q X S h),aD (k.call _ _ e),(nm o),<-jj t (bc (yH O S j d nm ?_)),<-iZ S (λy m=>h1 _ _ _ _ _ _ m h) λv s1 u=>(cX · λp b hl q a r=>?_)]
 induction c using Ff.casesOn with
 |fn f=>exact⟨Cx o a.Br,p_mono (Qc O a b q) (λ_ _ z=>z.g) λ_ _ z=>z⟩
 |cls C i=>exact⟨Cx o.1 a.Br,p_mono (YM O o a b q) (λ_ _ z=>z.g) λ_ _ z=>z⟩
 |len=>exact⟨gE,p_mono (D_ rfl O.ar.handled b a q) (λ_ _ z=>z.g) λ_ _ z=>z⟩
 |bytes=>exact⟨kD,p_mono (D_ rfl O.ar.handled b a q) (λ_ _ z=>z.g) λ_ _ z=>z⟩
 |cZ=>exact⟨kD,p_mono (D_ rfl O.ar.handled b a q) (λ_ _ z=>z.g) λ_ _ z=>z⟩
 |sorted=>exact⟨gE,p_mono (D_ rfl O.ar.handled b a q) (λ_ _ z=>z.g) λ_ _ z=>z⟩
 |tuple=>exact⟨kD,p_mono (D_ rfl O.ar.handled b a q) (λ_ _ z=>z.g) λ_ _ z=>z⟩
 |list=>exact⟨kD,p_mono (D_ rfl O.ar.handled b a q) (λ_ _ z=>z.g) λ_ _ z=>z⟩
 |sum=>exact⟨gE,p_mono (D_ rfl O.ar.handled b a q) (λ_ _ z=>z.g) λ_ _ z=>z⟩
 |min=>exact⟨gE,p_mono (D_ rfl O.ar.handled b a q) (λ_ _ z=>z.g) λ_ _ z=>z⟩
noncomputable def xM(T:lS)(κ:MK)(m:Nat):Value:=match κ with
 | .list=>if m=0 then .builtin "list.append" else .builtin "list.pop"
 | .cZ=>if m=0 then .builtin "bytearray.append" else .builtin "bytearray.extend"
 | .bytes=>.builtin "bytes.join"
 | .inst C=>.ref ((T.bp C m).getD 0)
theorem sP(h:T.bp C m=some f):xM T (.inst C) m=.ref f:=by
 show iq ((T.bp C m).getD 0)=_;erw[aj h];rfl
theorem Na(P:TabsOk T K)(E:m<18)(S:Sat K N au ρ B ak os H s)(r:c9 s.heap va x)(c:mk? x H=some κ)(i:O3 T κ m=true)(q:Q (xM T κ m,[va]) s):
  bP (model af w) A (getMethod va (zU m) pl) Q Ex s:=by
 induction x using V.casesOn with
 |ref a=>
  have e:=r.inv;subst e;unfold mk? at c;dsimp only at c;cases e:H a with
  |none=>rw[e] at c;injection c
  |some u=>
   rw[e] at c
   induction u using MO.casesOn with
   |list W=>
   injection c with c;subst c
   erw[ay (wd (S.h.rel.obj a _ e)),(aQ hl r),gI hl,(p sl j)];unfold O3 at i;simp only[Bool.or_eq_true,beq_iff_eq] at i;rcases i with rfl|rfl
   ·exact l_ ⟨_,j,rfl⟩ Dp PySem.F.slot_list_append PySem.F.type_list_append (λa e=>by injection e with e;subst e;exact⟨_,j,rfl⟩) q
   ·exact l_ ⟨_,j,rfl⟩ Dp E3 PySem.F.type_list_pop (λa e=>by injection e with e;subst e;exact⟨_,j,rfl⟩) q
   |cZ b=>
   injection c with c;subst c
   erw[ay (Co (S.h.rel.obj a _ e)),(O M _),bf M,(sl j)];unfold O3 at i;simp only[Bool.or_eq_true,beq_iff_eq] at i;rcases i with rfl|rfl
   ·exact l_ ⟨_,j,rfl⟩ uU BA.sy BA.DW (λa e=>by injection e with e;subst e;exact⟨_,j,rfl⟩) q
   ·exact l_ ⟨_,j,rfl⟩ uU BA.sD BA.Ey (λa e=>by injection e with e;subst e;exact⟨_,j,rfl⟩) q
   |inst C fs=>
   injection c with c;subst c
   erw[bf (jm.mp i),(f l),cA (P.bp _ _ _ l),(h1 h2 h3),sJ (zt S e),(X d n G I hd L R D),u0 D,(o es p g hc U z Y J y)];rw[R] at g;injection g with g;subst g
   refine method_fn S.Br I G.ga G.gn h1 (beq_iff_eq.mp h2) ?_ ?_
   ·show(lookIn (zU m) n).map _=_;erw[aj (yG U z),aj (y _ λk c=>Mf m E k c)];rfl
   ·rw[sP l] at q;exact q
 |bytes b=>
  erw[dg r.inv,(O t v hb)];subst v;unfold mk? at c
  induction b using lcs with
  |cons=>injection c
  |nil=>
   injection c with c;subst c
   unfold O3 at i
   obtain rfl:=beq_iff_eq.mp i
   exact l_ (typeIs_bytes _ _ _) FB.plainAttrs_bytes BA.xO BA.IP (λa e=>by injection e) q
 |_=>injection c
theorem LV(b:TabsOk T K)(a:O3 T κ m=true)(S:Sat K N au ρ B ak os H s):vp (model af w) A (xM T κ m) Ex s:=by
 cases κ with
 |list=>unfold xM;dsimp only;split<;>exact gE
 |cZ=>unfold xM;dsimp only;split<;>exact gE
 |bytes=>exact gE
 |inst C=>
  erw[bf (jm.mp a),(f h),aj (sP h),<-Cx (b.bp _ _ _ h).2.2 S.Br]
theorem I7(r:bU h d vs):qk vs=some b->∃a,BA.qC d a/\(a.map nG).flatten=b:=
 r.ind (M:=λd vs=>∀b,qk vs=some b->∃a,BA.qC d a/\(a.map nG).flatten=b) (λb e=>⟨[],.nil,bV e⟩) (λv x d vs r _ i b e=>by
  induction x using V.casesOn with
  |bytes l=>
   erw[ay (q_.mp (show(qk vs).map (l++ ·)=some b from e)),(f h1 h2),ay (i f h1),(a h3 h4),dg r.inv,(c t e1 e2),aj e1,<-⟨c::a,.cons c t h3,by erw[aj dr,aj fy,aj h4,aj e2,<-h2]⟩]
  |_=>exact nomatch (show none=some b from e)) b
theorem Xm(O:cU sc N au A l ak n)(S:Sat K N au ρ B ak os H s)(r:c9 s.heap va x)(p:bU s.heap I vs)(d:mk? x H=some κ)(h:jY af w K T n x m vs H Q X):bN (model af w) A (call (xM T κ m) (va::I)) (PV K N au ρ B ak os Q) (PE K N au ρ B ak os l X) s:=by
 induction x using V.casesOn with
 |ref a=>
  have e:=r.inv;subst e;unfold mk? at d;unfold jY at h;dsimp only at d h;cases e:H a with
  |none=>rw[e] at d;injection d
  |some mo=>
   rw[e] at d h
   induction mo using MO.casesOn with
   |list M=>
    injection d with d;subst d
    erw[aD h];clear h;intro u h;rcases h with⟨rfl,v,rfl,q⟩|⟨rfl,i,v,rfl,h0,hv,q⟩
    ·erw[ay (sZ p),(z kZ g)];subst kZ;exact bc (appendS e u g S q)
    ·erw[ay (sZ p),(z pF g)];subst pF;erw[bf g.inv,(t U)];subst U;exact bc (aaX e u S h0 hv q)
   |cZ b=>
    injection d with d;subst d
    erw[aD h];clear h;erw[(u h),ay (Co (S.h.rel.obj a _ e)),(F j E)];have J:F.size=b.length:=by refine' c_ vH ?_;refine' aj E ?_;rfl
    rcases h with⟨rfl,i,rfl,h0,h1,q⟩|⟨rfl,c,rfl,h0,q⟩
    ·erw[ay (sZ p),(z P g)];subst P;erw[bf g.inv,(t Ce)];subst Ce;erw[<-BA.Nq j h0 h1 (aj sizeLine_eq (fe [(av,aW),(aW,zn 100000)] (zs av,zn 16777216) rt (aa J) u)) λh' o D=>⟨_,_,.none,q,?_⟩,<-S.set (mo':=.cZ (b++[cM _])) e rfl (.inl rfl) D (λx=>by injection x) (kh.CM o ?_),aj Array.toList_push,aj E];rfl
    ·erw[ay (sZ p),(z Eb g)];subst Eb;erw[dg g.inv,(G t D8 R)];subst D8;subst R;have hc:G.size<=100000:=by simpa using h0
     erw[<-BA.Ki j (aj sizeLine_eq (gF [(av,aW),(aW,zn 100000),(bT,zn 100000)] (zp av bT,zn 16777216) rt (aa J) u hc)) λh' o D=>⟨_,_,.none,q,?_⟩,<-S.set (mo':=.cZ (b++G.toList)) e rfl (.inl rfl) D (λx=>by injection x) (kh.CM o ?_),aj Array.toList_append,aj E];rfl
   |inst C fs=>
    injection d with d;subst d
    erw[ay h];clear h;erw[(f hf h),aj (sP hf),<-Qc O S (.cons (.ref a) p) h]
 |bytes b=>
  erw[dg r.inv,(F t L j)];subst L;erw[cA h];clear h;intro e0 AM h;subst AM;subst e0;injection d with d;subst d
  rcases F with⟨bl⟩
  have j:=j;subst j;erw[fX (YN p h),(a z Cn FN g h)];subst Cn;subst FN;have e:=g.inv;subst e;erw[ay (f_ h),(M e G_),fc G_,(b j h1 h2 q),ay (eR S e),(I hl Y),ay (I7 Y j),(bs WA y),<-bc (BA.IU hl WA (aj y (aj sizeLine_eq (dK h2 rfl))) λW k=>?_)];have:(bs.foldl (· ++ ·) #[]).toList=b:=by rewrite[BA.BV];refine' c_ y ?_;rfl
  erw[<-⟨_,H,.bytes _ W,?_,S.tok k⟩,aj this,<-q]
 |_=>injection d
theorem SE.bp(O:cU sc N au A l ak n)(c:TabsOk T K)(j:m<18)(i:wm o=true)(p:es.length<20)(hl:(apos.endLine==pos.line)=true)(t:(starEach es au).any (·.1)=false)(h0:SE af w K T n N au A l ak os mo (eval o au))(h1:AN af w K T n N au A l ak os ms (spliced (backTo pos (starEach es au)))):
  SE af w K T n N au A l ak os (.bp mo m ms) (eval (.Call (.Attribute o (zU m) apos) es [] pos) au):=by
 erw[(ρ B H s Q X S h),<-Ca t (Qn i) p hl (iZ S (λC a=>h0 _ _ _ _ _ _ a h) λG s1 M=>bI λx r=>(cX · λD k b q e J I=>?_)),<-bc (Na c j e r k b ?_),<-iZ e (λC a=>h1 _ _ _ _ _ _ a q) λF s2 L=>(fc · λE y hl u f d v=>⟨LV c b d,?_⟩),<-p_mono (Xm O d (r.mono v) y u f) (λ_ _ z=>z.g) λ_ _ z=>z]
structure Nk(af:eA)(w:bY)(A:Around)(K:fg)(I:Addr)(qV:Hp->Prop)(St:List V->Heap->Prop):Prop where
 keep:∀{rest h h'},St rest h->(∀o,h.get? I=some o->h'.get? I=some o)->St rest h'
 self:∀{rest s} {Q:Value->Shared->Prop} {Ex},St rest s.heap->Q (.ref I) s->bP (model af w) A (pyIter (.ref I)) Q Ex s
 there:∀{rest h},St rest h->∃o,h.get? I=some o/\o.cls≠.type "tuple"
 item:∀{v rest H s} {Q:Option Value->Shared->Prop} {Ex},ki (rP K) H s.heap->qV H->St (v::rest) s.heap->
  (∀h' tk vv,c9 s.heap vv v->St rest h'->d_ I s.heap h'->Q (some vv) {s with heap:=h',toks:=tk})->bP (model af w) A (pyNext (.ref I)) Q Ex s
 done:∀{H s} {Q:Option Value->Shared->Prop} {Ex},ki (rP K) H s.heap->qV H->St [] s.heap->(∀h',vC I s.heap h'->Q none {s with heap:=h'})->bP (model af w) A (pyNext (.ref I)) Q Ex s
theorem Nk.list(p:A.handled=none)(I a:Addr)(vs:List V):Nk af w A K I (λH=>H a=some (.list vs)) (λb h=>∃i,h.IsListIter I a i/\b=vs.drop i) where
 keep:=bI λi x e k=>⟨i,x.at k,e⟩
 self:=bI λi x e q=>wpAny_pyIter_listiter x q
 there:=bI λi=>(cX · λo m c _ e=>⟨o,m,by erw[aj c];decide⟩)
 item:=λ{v b H s Q Ex} R c=>bI λi x e q=>by
  erw[ay (R.obj a _ c),(y u r),aD u,(hl _)];have n:vs[i]?=some v:=by
   have:=congrArg List.head? e;rw[List.head?_cons,List.head?_drop] at this;exact this.symm
  erw[ay (r.get n),(g h1 h2),<-wpAny_pyNext_list_item x hl (by erw[aj (IG),<-h1]) λt f l=>q t s.toks g h2 ⟨i+1,f,?_⟩ l];have:=congrArg List.tail e;rw[List.tail_cons,List.tail_drop] at this;exact this
 done:=λ{H s Q Ex} R c=>bI λi x e q=>by
  erw[ay (R.obj a _ c),(y j r),aD j,(hl _)];have d:=List.drop_eq_nil_iff.mp e.symm;exact wpAny_pyNext_list_end p x hl (by erw[aj (IG),<-uc (aj r.length d)]) q
theorem Nk.range(f:A.handled=none)(I:Addr):Nk af w A K I (λ_=>True) (λa h=>∃(x:Int)(k:Nat),IsRangeIter h I x k 1/\a=gH x (x+k)) where
 keep:=(dg · λx k r e c=>⟨x,k,c _ r,e⟩)
 self:=(dg · λx k r e q=>wpAny_pyIter_rangeiter r q)
 there:=(dg · λx k r e=>⟨_,r,λq=>absurd (y8 q) (dc rfl)⟩)
 item:=λ{v a H s Q Ex} R hc=>Nu λx k r e q=>by
  unfold gH at e;rw[show(x+k-x).toNat=k by exact T_] at e
  induction k using Nat.casesOn with
  |zero=>injection e
  |succ k=>
   rw[tn,dr] at e;injection e with e1 e2
   refine wpAny_pyNext_range_item r (bb.mpr (dJ [] (zs (zn 0),zs av) rt)) λg b d=>q g _ (.int x s.toks) ?_ ⟨x+1,k,?_,?_⟩ d
   ·erw[aj e1];simpa using c9.int x s.toks
   ·have:(k+1:Nat)-1=(k:Int):=by exact da (oY [(cN,ys dW)] (.sub cN (yn 1),dW) rt (aF (bj _ _))) (oY [(ys cN,dW)] (cN,.sub dW (yn 1)) rt (aF (ao (bj _ _))))
    rw[this] at b;exact b
   ·erw[aj e2];unfold gH;erw[aj (show(x+1+k-(x+1)).toNat=k by exact T_),aj eg,dQ,(j _)];show V.int (x+((j+1:Nat):Int))=V.int (x+1+(j:Int))
    congr 1
    exact da (jU [(cN,ys dW)] (yp fU cN,yp (ys fU) dW) rt (aF (bj _ _))) (jU [(ys cN,dW)] (yp (ys fU) cN,yp fU dW) rt (aF (ao (bj _ _))))
 done:=λ{H s Q Ex} R hc=>Nu λx k r e q=>by
  unfold gH at e;rw[show(x+k-x).toNat=k by exact T_] at e
  induction k using Nat.casesOn with
  |zero=>exact wpAny_pyNext_range_end f r (dc rfl) q
  |succ k=>rw[tn] at e;injection e
structure Off(N:dH)(au:mq)(B:Heap)(ak:List (Addr×Obj))(a:Addr):Prop where
 out:∀p∈ak,p.1≠a
 own:¬Own N au a
 nO:B.get? a=none
theorem Sat.raised(S:Sat K N au ρ B ak os H s)(F:Off N au B ak a)(f:¬FP H s.heap a)(b:s.heap.get? a=some o):(top N au ak H s.heap).get? a=some o:=
 (jr _ _ _ _).mpr ⟨λx=>by
  rcases x with x|x|⟨p,h,e⟩
  ·exact f x
  ·exact F.own x
  ·exact F.out p h e,b⟩
theorem Sat.vV(S:Sat K N au ρ B ak os H s)(b:B.get? a=some o):¬FP H s.heap a:=λx=>by rw[S.h.nO a x] at b;injection b
theorem Sat.Qq(S:Sat K N au ρ B ak os H s)(F:Off N au B ak a)(f:¬FP H s.heap a)(j:∀i,¬qX s.heap a i)(k:vC a s.heap s'.heap)(r:s'.gens=#[])(m:s'.os=os):
  Sat K N au ρ B ak os H s'/\dM s.heap s'.heap:=by
 have c:jt (· =a) s.heap s'.heap:=λb o n e _=>⟨o.slots,k b o n e⟩;have h2:∀x i,qX s.heap x i->¬x=a:=λx i d e=>by replace e:=e.symm;subst e;exact j _ d
 exact⟨S.keep c (λb o e=>k b o (λq=>by replace q:=q.symm;subst q;rw[F.nO] at e;injection e) (S.h.stays b o e)) (λx g e=>by replace e:=e.symm;subst e;exact f g) h2 (λp l e=>F.out p l e) (λx o e=>by replace e:=e.symm;subst e;exact F.own o) r m,c.tup h2⟩
theorem Sat.tB(S:Sat K N au ρ B ak os H s)(F:Off N au B ak a)(f:¬FP H s.heap a){s':Shared}(k:vC a s.heap s'.heap)(fb:¬FP H s.heap b):¬FP H s'.heap b:=λx=>by
 have c:jt (· =a) s.heap s'.heap:=λb o n e _=>⟨o.slots,k b o n e⟩;exact fb ((S.h.rel.pV c (λx g e=>by replace e:=e.symm;subst e;exact f g) b).mp x)
theorem Sat.adopt(S:Sat K N au ρ B ak os H s)(F:Off N au B ak a)(f:¬FP H s.heap a)(hl:sL s.heap a aQ.toArray)(r:bU s.heap aQ vs):H a=none/\Sat K N au ρ B ak os (upd H a (.list vs)) s:=by
 have d:∀i,¬qX s.heap a i:=λi=>CV λo c g _=>by
  erw[gI hl,(n sl e)];rw[e] at c;injection c with c;subst c;exact absurd (y8 g) (dc rfl)
 have k:vC a s.heap (qO (· =a) s.heap):=λb o n e=>(jr _ _ _ _).mpr ⟨n,e⟩;erw[aD (S.Qq (s':={s with heap:=qO (· =a) s.heap}) F f d k S.h.gens S.h.os),(j _),<-⟨?_,j.new (nR _ _) (mX rfl) rfl (hl.CM r) S.h.gens S.h.os⟩];cases e:H a with
 |none=>rfl
 |some m=>exact absurd (.inl (by erw[aj e];simp)) f
open PySem.MeetsSeq in
theorem Gl{b:List Value}(hl:sL s.heap a b.toArray)(c:b.length<=100000)(q:Q .none {s with heap:=s.heap.update a (lZ λx=>x.push vv)}):
  bP (model af w) A (call (.builtin "list.append") [.ref a,vv]) Q Ex s:=by
 erw[gI (id hl),(n sl h),<-wpAny_call_entry slot_list_append hl.isList.typeIs entry_list_append ?_ (args_list_append _ _)];show bP _ _ (updateSeq a (·.push vv) >>= λ_=>ret .none) _ _ s;exact wpAny_bind (wpAny_updateSeq h rfl (wpAny_pure ⟨.none,rfl,q⟩))
theorem Sat.Hi(G:Sat K N au ρ B ak os H s)(k:B.StaysIn B')(a:∀x i,(x,Kd.ro,i)∈N->ew i=ρ i)(S:Sat K N au ew B' ak os H' s'):Sat K N au ew B ak os H' s':=
 ⟨S.h.down G.h.st k,S.f.down k λx i m v e=>G.f.ro x i m v ((a x i m).symm.trans e)⟩
theorem TZ(O:PQ N sc)(m:(x,k,i)∈N)(h:k≠.ro):∀y j,(y,Kd.ro,j)∈N->upd ρ i v j=ρ j:=λy j a=>by
 erw[dp _ _,(e)];subst e;have e:=O.inj _ _ _ _ _ a m;subst e;exact h (O.fn _ _ _ _ _ m a).1
theorem bR(f:Nat->Option α)(a:Nat)(x y:α):upd (upd f a x) a y=upd f a y:=by
 funext b;unfold upd;split<;>rfl
theorem Je{St:List V->Heap->Prop}(O:cU sc N au A l ak n)(hx:N.lookup x=some (.loc,1000))(F:Nk af w A K I qV St)(G:Off N au B ak I)(FD:Off N au B ak D)(V1:I≠D)(He:∀v B H s Q,Sat K N au (upd ρ 1000 v) B ak os H s->Fy v H Q->bN (model af w) A (eval elt au) (PG K N au (upd ρ 1000 v) B ak os (QV Q)) (λ_ _=>False) s)(Hc:∀v B H s Q,Sat K N au (upd ρ 1000 v) B ak os H s->zA v H Q->bN (model af w) A (forIn ifs true λc r=>if r=true then do let ok<-isTrue c au (eval c au);pure (cw ok) else pure (cw r)) (PG K N au (upd ρ 1000 v) B ak os (QB Q)) (λ_ _=>False) s)(hR:∀s' m W ys j,Sat K N au W B ak os m s'->sL s'.heap D ys.toArray->bU s'.heap ys j->¬FP m s'.heap D->Qf j m->R (.ok .next) s')(S:Sat K N au ρ B ak os H s)(st:St d s.heap)(E:¬FP H s.heap I)(fD:¬FP H s.heap D)(hD:sL s.heap D #[])(J:d.length<=1000)(T:qV H)(h:j8 Fy zA qV d [] H Qf):
  dU (model af w) A (.compLoop (.ListComp elt [⟨.Name x px,iter,ifs,0⟩] scope pos) 0 (.ref I) (.ref D) au) R s:=by
 refine EN (λk s'=>∃d j ys m W,k=d.length/\(∀u,upd W 1000 u=upd ρ 1000 u)/\Sat K N au W B ak os m s'/\St d s'.heap/\¬FP m s'.heap I/\¬FP m s'.heap D/\sL s'.heap D ys.toArray/\bU s'.heap ys j/\
  ys.length+d.length<=1000/\qV m/\j8 Fy zA qV d j m Qf) ?_ d.length ⟨d,[],[],H,ρ,rfl,λ_=>rfl,S,st,E,fD,hD,.nil,by simpa using J,T,h⟩
 erw[(k s kZ),Pk kZ];clear kZ;intro d j ys H W pF hu S st E fD hD ry J T h;subst pF;have nI:∀i,¬qX s.heap I i:=λi=>CV λo f hc _=>by
  erw[ay (F.there st),(o' vK hc')];rw[f] at vK;injection vK with vK;subst vK;exact hc' hc
 induction d using lcs with
 |nil=>
  erw[<-bc (F.done S.h.rel T st λC k=>?_),aD (S.Qq (s':={s with heap:=C}) G E nI k S.h.gens S.h.os),(S' T'),gI hD,(n sl f),<-hR _ H W ys j S' ⟨n,sl,k _ _ (aJ V1) f⟩ (ry.mono T') (S.tB G E k fD) h]
 |cons v d=>
  refine bc (F.item S.h.rel T st λC tk vv rv Oh k=>?_);have kx:=k.extBut;erw[aD (S.Qq (s':={s with heap:=C,toks:=tk}) G E nI kx S.h.gens S.h.os),(P T1)];have Vw:=S.tB (s':={s with heap:=C,toks:=tk}) G E kx E;have fD1:=S.tB (s':={s with heap:=C,toks:=tk}) G E kx fD;have hD1:sL C D ys.toArray:=let⟨n,sl,f⟩:=hD;⟨n,sl,kx _ _ (aJ V1) f⟩;erw[ay (F.there Oh),(oI HE _)];have ry1:=ry.mono T1;have VC:=rv.mono T1;generalize Qu:({s with heap:=C,toks:=tk})=s1 at P Vw fD1 VC⊢;have YJ:C=s1.heap:=by refine' c_ Qu ?_;rfl
  rw[YJ] at Oh hD1 HE ry1;clear Qu YJ rv;erw[gI (id hD1),(nD slD hoD),cA (O.ofName hx),(mx _ _)];have e1:=hu v;refine bc (wpAny_assign_Name (xQ O P.raise hx (λh=>by injection h) VC λs2 EG=>?_));have t:=P.raised G Vw HE;have p:=P.raised FD fD1 hoD;have GW:=EG.h.stays _ _ t;have aan:=EG.h.stays _ _ p;have fI2:=EG.vV t;have fD2:=EG.vV p;have X6:=F.keep Oh λo e=>by rw[HE] at e;injection e with e;subst e;exact GW
  have ry2:=ry1.mono λa i it=>dM.of_stays EG.h.stays _ _ (P.v_ _ _ it);have M:=P.Hi P.stays (TZ O.JU mx (λh=>by injection h)) EG;rw[e1] at M;refine p_mono (Hc v _ H s2 _ M.raise h) (λb s3=>bI λH3 q Y=>?_) λ_ _ z=>z;have t:=M.raised G fI2 GW;have p:=M.raised FD fD2 aan;have LP:=Y.h.stays _ _ t;have Xy:=Y.h.stays _ _ p;have fI3:=Y.vV t;have fD3:=Y.vV p;have st3:=F.keep X6 λo e=>by rw[GW] at e;injection e with e;subst e;exact LP
  have ry3:=ry2.mono λa i it=>dM.of_stays Y.h.stays _ _ (M.v_ _ _ it);have L:=M.down M.stays Y;unfold QB at q;have hul:∀u,upd (upd ρ 1000 v) 1000 u=upd ρ 1000 u:=λu=>bR _ _ _ _
  induction b using tQ with
  |false=>
   exact⟨_,gS _,d,j,ys,H3,_,rfl,hul,L,st3,fI3,fD3,⟨nD,slD,Xy⟩,ry3,by simp only[aU] at J;exact fe [(zp av (zs aW),zn 1000)] (zp av aW,zn 1000) rt J,q.1,q.2⟩
  |true=>
   simp only[if_true] at q⊢;refine p_mono (He v _ H3 s3 _ L.raise q) (λy U=>bI λH4=>(cX · λxv rx T q X=>?_)) λ_ _ z=>z;have t:=L.raised G fI3 LP;have p:=L.raised FD fD3 Xy;have abQ:=X.h.stays _ _ t;have Vy:=X.h.stays _ _ p;have fI4:=X.vV t;have g:=X.vV p;have st4:=F.keep st3 λo e=>by rw[LP] at e;injection e with e;subst e;exact abQ
   have ry4:=ry3.mono λa i it=>dM.of_stays X.h.stays _ _ (L.v_ _ _ it);have S4:=L.down L.stays X;have hD4:sL U.heap D ys.toArray:=⟨nD,slD,Vy⟩;have nD':∀i,¬qX U.heap D i:=λi=>(cX · λo f hc _=>by rw[Vy] at f;injection f with f;subst f;exact absurd (y8 hc) (dc rfl));simp only[aU] at J;refine bc (Gl hD4 (fe [(zp av aW,zn 1000)] (av,zn 100000) rt J) ?_);have k:vC D U.heap (U.heap.update D (lZ λx=>x.push y)):=(iE ..).extBut;erw[aD (S4.Qq (s':={U with heap:=U.heap.update D (lZ λx=>x.push y)}) FD g nD' k S4.h.gens S4.h.os),(S5 T5)];refine⟨_,gS _,d,j++[xv],ys++[y],H4,_,rfl,hul,S5,F.keep st4 λo e=>k _ _ V1 e,S4.tB FD g k fI4,
    S4.tB FD g k g,?_,(ry4.append (.cons rx .nil)).mono T5,by simp only[ah,aU,Bw];exact fe [(zp av (zs aW),zn 1000)] (zp (zp av (zs (zn 0))) aW,zn 1000) rt J,T,q⟩
   have:=hD4.update λx=>x.push y
   simpa using this
theorem mB{N:dH}:∀{n:List (Str×dz)} {y:Str} {k:Kd} {j:Nat},(y,k,j)∈di N n->(k=.loc/\j=1000/\(y,NameKind.local)∈n)\/(k=.ro/\(y,eD)∈n/\∃d,N.lookup y=some (d,j))
 |[],y,k,j,h=>absurd h AX
 |(x,kd)::r,y,k,j,h=>by
  have up:(y,k,j)∈di N r->(k=.loc/\j=1000/\(y,NameKind.local)∈(x,kd)::r)\/(k=.ro/\(y,eD)∈(x,kd)::r/\∃d,N.lookup y=some (d,j)):=λh=>by
   rcases mB h with⟨a,b,c⟩|⟨a,b,c⟩
   ·exact .inl ⟨a,b,fR c⟩
   ·exact .inr ⟨a,fR b,c⟩
  induction kd using NameKind.casesOn
  ·replace h:(y,k,j)∈(if x==(".0") then di N r else(x,.loc,1000)::di N r):=h
   by_cases e:(x==(".0"))=true
   ·rw[if_pos e] at h;exact up h
   ·rw[if_neg e] at h;refine(bE.mp h).elim (λh=>?_) up;injection h with h1 h2;injection h2 with h2 h3
    replace h1:=h1.symm;subst h1;subst h2;subst h3;exact .inl ⟨rfl,rfl,j4⟩
  ·exact up h
  ·replace h:(y,k,j)∈(match N.lookup x with|some (_,i)=>(x,Kd.ro,i)::di N r|none=>di N r):=h;cases hl:N.lookup x with
   |none=>rw[hl] at h;exact up h
   |some p=>
    rw[hl] at h;refine(bE.mp h).elim (λh=>?_) up;injection h with h1 h2;injection h2 with h2 h3
    replace h1:=h1.symm;subst h1;subst h2;subst h3;exact .inr ⟨rfl,j4,p.1,hl⟩
  ·exact up h
  ·exact up h
theorem wg{N:dH}(c:(x !=(".0":Str))=true):∀{n:List (Str×dz)},n.lookup x=some .local->(di N n).lookup x=some (.loc,1000)
 |[],h=>by injection h
 |(y,k)::r,h=>by
  rw[dA] at h;have b:(x==(".0"))=false:=by simpa[bne] using c
  cases e:x==y with
  |true=>
   rw[e] at h;injection h with h;subst h
   have:=beq_iff_eq.mp e;subst this;show(if(x==(".0":Str))=true then di N r else(x,Kd.loc,1000)::di N r).lookup x=_;rw[b,if_neg hW,dA,beq_self_eq_true]
  |false=>
   rw[e] at h;have a:=wg c (N:=N) h
   induction k using NameKind.casesOn
   ·show(if y==(".0") then di N r else(y,.loc,1000)::di N r).lookup x=_
    by_cases d:(y==(".0"))=true
    ·rw[if_pos d];exact a
    ·rw[if_neg d];erw[aj dA,aj e,<-a]
   ·exact a
   ·show(match N.lookup y with|some (_,i)=>(y,Kd.ro,i)::di N r|none=>di N r).lookup x=_
    induction N.lookup y using tT
    ·exact a
    ·erw[aj dA,aj e,<-a]
   ·exact a
   ·exact a
structure Hx(N:dH)(x:Str)(names:List (Str×dz)):Prop where
 free:∀y,(y,eD)∈names->∃j,N.lookup y=some (.cell,j)
 WN:∀y∈names,y.2≠.cell
 loc:∀y∈names,y.2=.local->names.lookup y.1=some .local
 x:(di N names).lookup x=some (.loc,1000)
 JU:PQ (di N names) (mV names)
theorem Hx.of{N:dH}{x:Str}(h:LD N x names=true)(h2:Ej (di N names) (mV names)=true):Hx N x names:=by
 erw[aD (ag.mp h),(g d),aD (ag.mp g),(i c),aD (ag.mp i),(a b)];have a:=cJ.mp a;have c:=cJ.mp c;refine⟨λy f=>?_,λy f e=>?_,λy f e=>?_,wg d (beq_iff_eq.mp b),PQ.of h2⟩
 ·have:=a _ f;replace this:(match N.lookup y with|some (.cell,_)=>true|_=>false)=true:=this;generalize N.lookup y=o at this⊢
  induction o using tT with
  |none=>injection this
  |some o=>
   induction o using Prod.casesOn with
   |mk k j=>induction k using Kd.casesOn<;>first|exact⟨j,rfl⟩|(injection this)
 ·have:=a _ f;rw[e] at this;injection this
 ·have:=c _ f;rw[e] at this
  simpa using this
theorem pM{au:mq}:∀(n:List (Str×dz)) (i:List (Str×Addr)),(∀y,(y,eD)∈n->∃a,au.cells.lookup y=some a)->(∀p∈i,au.cells.lookup p.1=some p.2)->
  ∃cl,(forIn n i λ(p:Str×dz) (f:List (Str×Addr))=>(if(p.2==eD)=true then(do let a<-cellOf au p.1;pure (cw ((p.1,a)::f))) else pure (cw f):Sem (ForInStep (List (Str×Addr)))))=pure cl/\
   (∀p∈cl,au.cells.lookup p.1=some p.2)/\(∀y,((y,eD)∈n\/∃a,(y,a)∈i)->∃a,(y,a)∈cl)
 |[],i,_,h2=>⟨i,rfl,h2,λy h=>by rcases h with h|h;cases h;exact h⟩
 |(x,k)::r,i,h1,h2=>by
  by_cases d:k=.free
  ·subst d;erw[bf (h1 x j4),(a e)];refine cX (pM r ((x,a)::i) (λy c=>h1 y (fR c)) (λp hp=>by
    rcases bE.mp hp with rfl|hp
    ·exact e
    ·exact h2 p hp)) ?_
   erw[(cl e1 e2 e3),<-⟨cl,?_,e2,λy h=>e3 y ?_⟩]
   ·rw[Bs];have:cellOf au x=pure a:=by unfold cellOf;refine' aj e ?_;rfl
    dsimp only;erw[aj this,<-e1]
   ·rcases h with h|⟨b,h⟩
    ·rcases bE.mp h with h|h
     ·injection h with h1 h2;replace h1:=h1.symm;subst h1;exact .inr ⟨a,j4⟩
     ·exact .inl h
    ·exact .inr ⟨b,fR h⟩
  ·erw[cX (pM r i (λy c=>h1 y (fR c)) h2),(cl e1 e2 e3),<-⟨cl,?_,e2,λy h=>e3 y ?_⟩]
   ·rw[Bs];have:(k==eD)=false:=by simpa using d
    dsimp only;erw[aj this,<-e1]
   ·rcases h with h|h
    ·rcases bE.mp h with h|h
     ·injection h with h1 h2;exact absurd h2.symm d
     ·exact .inl h
    ·exact .inr h
theorem F_(h:∀y,(y,eD)∈scope.names->∃a,au.cells.lookup y=some a):
  ∃cl,closureFor scope au=pure cl/\∀y,(y,eD)∈scope.names->cl.lookup y=au.cells.lookup y:=by
 erw[cX (pM scope.names [] h (λ_ h=>by cases h)),(cl e1 e2 e3),<-⟨cl,?_,λy g=>?_⟩]
 ·unfold closureFor;have:(forIn scope.names [] λp d=>(if(p.2==eD)=true then(do let a<-cellOf au p.1;pure (cw ((p.1,a)::d))) else pure (cw d))) >>= (λd=>pure d)=(pure cl:Sem _):=by refine' aj e1 ?_;rfl
  exact this
 ·erw[bf (e3 y (.inl g)),(a j)];have:∀(l:List (Str×Addr)),(y,a)∈l->∃b,l.lookup y=some b:=λl=>by
   induction l with
   |nil=>intro h;cases h
   |cons p r i=>
    intro h;rcases p with⟨z,c⟩
    erw[aj dA];cases e:y==z with
    |true=>exact⟨c,rfl⟩
    |false=>
     rcases bE.mp h with h|h
     ·injection h with h1 h2;subst h1;simp at e
     ·exact i h
  erw[bf (this cl j),(b f),aj f,<-(e2 _ (mem_of_lookup f)).symm]
theorem Bo(O:cU sc N au A l ak n)(C:Hx N x scope.names):(relabel scope au).names=mV scope.names:=by
 unfold relabel mV;erw[dQ,(y a)];rcases y with⟨z,k⟩
 dsimp only
 by_cases h:k=.free
 ·subst h;erw[bf (C.free z a),(j b)];have:=(O.ofName b).2.1;erw[aj this,aj O.kind];rfl
 ·have:(k==eD)=false:=by simpa using h
  erw[aj this];rfl
theorem Jz{scope:Scope}{x:Str}{cl:List (Str×Addr)}{C:Addr}{o:Obj}(O:cU sc N au A l ak n)(f:scope.kind=.function)(d:Hx N x scope.names):
  cU (mV scope.names) (di N scope.names) (compEnvC scope cl C au) A l ((au.locals,o)::ak) n where
 kind:=f
 names:=Bo O d
 JU:=d.JU
 glob:=O.glob
 blt:=O.blt
 ar:=O.ar
 fr:=O.fr
 ne:=O.ne
 frs:=λe g=>by
  erw[aD (O.frs e g),(a i),ay i,(L b c),<-⟨a,L,b,.inr ?_⟩];rcases c with rfl|⟨p,h,e⟩
  ·exact⟨_,j4,rfl⟩
  ·exact⟨p,fR h,e⟩
noncomputable def XI(ρ:Loc):Loc:=λi=>if i=1000 then none else ρ i
theorem Hr(ρ:Loc)(v:V):upd (XI ρ) 1000 v=upd ρ 1000 v:=by
 funext i;unfold upd XI;split<;>rfl
theorem Bz{St:List V->Heap->Prop}{RR:Value->Addr->Dx->Shared->Prop}(O:cU sc N au A l ak n)(hk:scope.kind=.function)(CO:Hx N x scope.names)(JW:∀y,(y,eD)∈scope.names->cl.lookup y=au.cells.lookup y)(S:Sat K N au ρ B ak os H s)(k:∀b o,s.heap.get? b=some o->cc.heap.get? b=some o)(hg:cc.gens=#[])(E_:cc.os=os)(hI:s.heap.get? I=none)(IT:Nk af w A K I qV St)(st:St rest cc.heap)(hz:rest.length<=1000)(xZ:qV H)(h:j8 Fy zA qV rest [] H Qf)(He:∀d U,cU (mV scope.names) (di N scope.names) d A l U n->∀v B H s Q,Sat K (di N scope.names) d (upd ρ 1000 v) B U os H s->Fy v H Q->
   bN (model af w) A (eval elt d) (PG K (di N scope.names) d (upd ρ 1000 v) B U os (QV Q)) (λ_ _=>False) s)(Hc:∀d U,cU (mV scope.names) (di N scope.names) d A l U n->∀v B H s Q,Sat K (di N scope.names) d (upd ρ 1000 v) B U os H s->zA v H Q->
   bN (model af w) A (forIn ifs true λc r=>if r=true then do let ok<-isTrue c d (eval c d);pure (cw ok) else pure (cw r)) (PG K (di N scope.names) d (upd ρ 1000 v) B U os (QB Q)) (λ_ _=>False) s)(hRR:∀D C m s' Y L,Y D=none->Qf L Y->Sat K N au ρ B ak os (upd Y D (.list L)) s'->dM s.heap s'.heap->s'.heap.Ns C m->Off N au B ak C->¬FP (upd Y D (.list L)) s'.heap C->RR (.ref D) C (.ok .next) s'):
  bN (model af w) A (newList []) (λL W=>bN (model af w) A (newFunctionEnv scope au.globals cl [] au.qual none .none (some au)) (λd vn=>
   dU (model af w) A (.compStart (.ListComp elt [⟨.Name x px,iter,ifs,0⟩] scope pos) 0 (.ref I) L {d with scope:=relabel scope au}) (RR L d.locals) vn) Ex W) Ex cc:=by
 refine bc (wpAny_newObj_type (bc (wpAny_newFunctionEnv CO.WN (by intro y X;simp at X) (λcu CU Cf=>?_) hk)));dsimp only at CU Cf⊢;generalize U7:cc.heap.push {cls:=.type "list",dict:=none,data:=.seq ([]).toArray}=H2 at CU Cf⊢;erw[ay (IT.there st),(oI HE hIt)];have hC:H2.objs.size=cc.heap.objs.size+1:=by refine' c_ U7 ?_;rw[Heap.size_push]
 have R:cc.heap.objs.size≠H2.objs.size:=by refine' aj hC ?_;exact zy (gS _)
 have FE:∀b,b<cc.heap.objs.size->b≠H2.objs.size/\b≠cc.heap.objs.size:=λb hb=>⟨by erw[aj hC,<-zy (Nat.lt_succ_of_lt hb)],zy hb⟩;have E:∀b o,cc.heap.get? b=some o->cu.get? b=some o:=λb o e=>Cf.extBut b o (FE b (eO e)).1 (bB _ (U7▸bB _ e));have k1:∀b o,s.heap.get? b=some o->cu.get? b=some o:=λb o e=>E b o (k b o e);have Xj:=Cf.extBut _ _ R (bB _ (U7▸dv _ rfl));have D1:∀a,cc.heap.objs.size<=a->s.heap.get? a=none:=λa t=>by
  cases e:s.heap.get? a with
  |none=>rfl
  |some o'=>exact absurd (eO (k a o' e)) (tN.mpr t)
 have T:=D1 cc.heap.objs.size qt;have WT:=D1 H2.objs.size (aj hC (qp _));have V1:=(FE I (eO HE)).2;have hIC:=(FE I (eO HE)).1;generalize cc.heap.objs.size=D at*;generalize H2.objs.size=C at*;have M:∀a,s.heap.get? a=none->Off N au B ak a/\¬FP H s.heap a/\a≠au.locals:=λa t=>by
  have hL:a≠au.locals:=λe=>by
   subst e;erw[ay S.f.ns,(_ iL _),xN iL,(o _ _ g _)];rw[t] at g;injection g
  refine⟨⟨λp hp e=>?_,λo=>?_,dF S.h.stays t⟩,λf=>?_,hL⟩
  ·subst e;erw[dX (S.h.ak p hp),(_ _ _ kZ),bf kZ,(sl g)];rw[t] at g;injection g
  ·rcases o with o|⟨y,i,m,e⟩
   ·exact hL o
   ·erw[Cv (S.f.cell y i m),(c' o e' _ _ _ _ g _)];rw[e] at e';injection e' with e';subst e';rw[t] at g;injection g
  ·erw[ay (S.h.rel.own f),(o g _)];rw[t] at g;injection g
 erw[fc S.Ck,(oL SH st0 T0 hoL)];have Qs:∀a,s.heap.get? a=none->a≠C->Off (di N scope.names) (compEnvC scope cl C au) (below au ak H s.heap) ((au.locals,oL)::ak) a:=λa t si=>by
  erw[cA (M a t),(F f hL),<-⟨λp hp=>?_,λo=>?_,dF (nR _ _) t⟩]
  ·rcases bE.mp hp with rfl|hp
   ·exact aJ hL
   ·exact F.out p hp
  ·rcases o with o|⟨y,i,m,e⟩
   ·exact si o
   ·rcases mB m with⟨h,_⟩|⟨h,_⟩<;>cases h
 generalize G:({cc with heap:=cu,toks:=cc.toks+([]:List (Str×Value)).length})=W;have hh3:W.heap=cu:=by refine' c_ G ?_;rfl
 have YA:W.gens=#[]:=by refine' c_ G ?_;exact hg
 have ho3:W.os=os:=by refine' c_ G ?_;exact E_
 clear G;rw[<-hh3] at k1 Xj E CU;have SH3:=SH.grow k1 YA ho3;have Oc:=S.h.rel.pV (jt.of_keeps k1) (λ_ _=>id);have S3:Sat K (di N scope.names) (compEnvC scope cl C au) (XI ρ) (below au ak H s.heap) ((au.locals,oL)::ak) os H W:=by
  refine⟨SH3,⟨⟨_,CU,λy kd j m hkd v P=>?_⟩,dF (nR _ _) WT,λf=>(M C WT).2.1 ((Oc _).mp f),λp hp=>?_,λy j m=>?_,λy z i j c m=>?_,λy j m v P=>?_⟩⟩
  ·rcases mB m with⟨_,rfl,_⟩|⟨e,_⟩
   ·unfold XI at P;injection P
   ·rw[hkd] at e;injection e
  ·rcases bE.mp hp with rfl|hp
   ·exact aJ (M C WT).2.2
   ·exact(M C WT).1.out p hp
  ·rcases mB m with⟨e,_⟩|⟨e,_⟩<;>cases e
  ·rcases mB m with⟨e,_⟩|⟨e,_⟩<;>cases e
  ·rcases mB m with⟨e,_⟩|⟨_,hf,k',hl⟩
   ·injection e
   ·erw[bf (CO.free y hf),(j' J)];rw[hl] at J;injection J with J;injection J with e1 e2
    subst e1;subst e2;erw[iC (S.f.cell y j (mem_of_lookup hl)),(c oc a1 a2 a3 a4 pF),cA pF,(a5 a6 tU),ay tU];intro v? a8 a9;have hv':ρ j=some v:=by
     unfold XI at P;split at P
     ·injection P
     ·exact P
    erw[ay (a9 v hv'),(val xl rv)];subst xl;refine⟨c,val,(JW y hf).trans a1,⟨oc,(jr _ _ _ _).mpr ⟨λq=>?_,a6⟩,a8⟩,rv.mono T0⟩;rcases q with f|f|⟨p,hp,e⟩
    ·exact a4 f
    ·exact a2 f
    ·exact a5 p hp e
 have EO:cU (mV scope.names) (di N scope.names) (compEnvC scope cl C au) A l ((au.locals,oL)::ak) n:=Jz O hk CO;erw[Df (λ{Ex Q} q=>IT.self (IT.keep st λo e=>E I o e) q)];refine Je EO CO.x IT (Qs I hI hIC) (Qs D T R) V1
  (λv B H s Q u q=>by rw[Hr] at u⊢;exact He _ _ EO v B H s Q u q) (λv B H s Q u q=>by rw[Hr] at u⊢;exact Hc _ _ EO v B H s Q u q)
  (λs' Y ew ys L u hl r fD q=>?_) S3 (IT.keep st λo e=>E I o e) (λf=>(M I hI).2.1 ((Oc _).mp f)) (λf=>(M D T).2.1 ((Oc _).mp f)) ⟨0,#[],Xj⟩ hz xZ h
 erw[bf u.f.ns,(mC hnC),aD (S.rM hoL u.h),(S4 T4),aD (S4.adopt (M D T).1 fD hl r),(hDn S5),hRR D C mC s' Y L hDn q S5 T4 hnC.1 (M C WT).1,(f)];have hi:eu (some (MO.list L))=false:=rfl;rcases f with f|⟨y,X,hd⟩
 ·by_cases e:C=D
  ·exact R e.symm
  ·rw[dp _ _ e] at f;exact u.f.off (.inl f)
 ·by_cases e:y=D
  ·replace e:=e.symm;subst e;rw[cY] at X;injection X
  ·rw[dp _ _ e] at X;exact u.f.off (.inr ⟨y,X,hd⟩)
theorem wZ:∀x,gw (ja m y) au x=pure x:=λx=>by
 have h:=tE m y;generalize ja m y=e at h
 induction e using Expr.casesOn with
 |Set a b c=>exact Bool.noConfusion h
 |_=>rfl
theorem Qy(O:cU sc N au A l ak n)(J:scope.kind=.function)(G:Hx N x scope.names)(T:∀x,gw iter au x=pure x)(S:Sat K N au ρ B ak os H s)(P:∀d i,cU (mV scope.names) (di N scope.names) d A l i n->∀v B H s Q,Sat K (di N scope.names) d (upd ρ 1000 v) B i os H s->Fy v H Q->
   bN (model af w) A (eval elt d) (PG K (di N scope.names) d (upd ρ 1000 v) B i os (QV Q)) (λ_ _=>False) s)(R:∀d i,cU (mV scope.names) (di N scope.names) d A l i n->∀v B H s Q,Sat K (di N scope.names) d (upd ρ 1000 v) B i os H s->zA v H Q->
   bN (model af w) A (forIn ifs true λc r=>if r=true then do let ok<-isTrue c d (eval c d);pure (cw ok) else pure (cw r)) (PG K (di N scope.names) d (upd ρ 1000 v) B i os (QB Q)) (λ_ _=>False) s)(h1:bN (model af w) A (eval iter au) (λv s1=>∃E,Sat K N au ρ B ak os E s1/\
   ((∃a vs,v=.ref a/\E a=some (.list vs)/\vs.length<=1000/\j8 Fy zA (λW=>W a=some (.list vs)) vs [] E Qf)\/
    (∃r t u t' g,v=.ref r/\IsRange s1.heap r 0 g 1 t u t'/\0<=g/\g<=1000/\j8 Fy zA (λ_=>True) (gH 0 g) [] E Qf))/\
    ∀D C m s' F L,F D=none->Qf L F->Sat K N au ρ B ak os (upd F D (.list L)) s'->dM s1.heap s'.heap->s'.heap.Ns C m->Off N au B ak C->¬FP (upd F D (.list L)) s'.heap C->BI (model af w) A Ex use Q' (.ref D) C (.ok .next) s') Ex s):
  bN (model af w) A (comprehension (.ListComp elt [⟨.Name x px,iter,ifs,0⟩] scope pos) scope au p2 (newList []) false (eval iter au) use) Q' Ex s:=by
 refine ay (F_ λy U=>by
  erw[bf (G.free y U),(j V),dg (S.f.cell y j (mem_of_lookup V)),(c o X _)];exact⟨c,X⟩) ?_
 erw[(cl Y M),<-Uz rfl T Y J G.loc (p_mono h1 (λv s1=>(cX · λE k q p=>?_)) λ_ _ z=>z)];rcases q with⟨a,vs,rfl,ha,hz,q⟩|⟨r,t,u,t',g,rfl,hr,h0,hz,q⟩
 ·erw[ay (eR k ha),(aQ hl _),<-bc (wpAny_pyIter_list hl ?_)];exact Bz O J G M k (λb o e=>bB _ e) k.h.gens k.h.os (none_at_size _)
   (Nk.list O.ar.handled _ a vs) ⟨0,⟨_,dv _ rfl,rfl,rfl⟩,rfl⟩ hz ha q P R p
 ·have I:Builtin.Range.small 0 g 1=true:=small_one (dc rfl) (dc rfl) (Tp h0) (Sv hz);have E9:nH 0 g 1=g.toNat:=by rw[rangeSize_one];split<;>lia
  refine bc (wpAny_pyIter_range hr I ?_);refine Bz O J G M k (λb o e=>bB _ e) k.h.gens k.h.os (none_at_size _)
   (Nk.range O.ar.handled _) ⟨0,g.toNat,?_,?_⟩ ?_ trivial q P R p
  ·erw[aj E9,<-dv _ rfl]
  ·congr 1;exact da (oY [(cN,dW)] (cN,yp (yn 0) dW) rt (kQ _)) (oY [(cN,dW)] (yp (yn 0) cN,dW) rt (aF (gQ (oG [(yn 0,cN)] (yn 0,cN) rt h0))))
  ·unfold gH;simp;assumption
theorem As{Qf:List V->Hp->Prop}(j:∀H a,Qf a H->∀c,H c=none->Q (.ref c) (upd H c (.list a)))(n:H D=none)(q:Qf a H)(S:Sat K N au ρ B ak os (upd H D (.list a)) s')(e:s'.heap.Ns C m)(F:Off N au B ak C)(f:¬FP (upd H D (.list a)) s'.heap C):
  BI M A Ex none (PG K N au ρ B ak os (QV Q)) (.ref D) C (.ok .next) s':=by
 refine⟨m,e,λp g=>?_⟩;refine aD (S.Qq (s':={s' with heap:=p}) F f (λi=>CV λo l t d=>d.elim λk d=>by
  erw[iB e,(s u w v b _)];rw[l] at v;injection v with v;subst v;rw[d] at b;injection b) g.extBut S.h.gens S.h.os) ?_
 erw[(r _),<-⟨_,⟨_,.ref D,j H a q D n⟩,r⟩]
theorem uY{Qf:List V->Hp->Prop}{Q:Loc->Hp->Prop}(O:cU sc N au A l ak n)(j:N.lookup y=some (.loc,i))(v:∀H b,Qf b H->∀c,H c=none->Q (upd ρ i (.ref c)) (upd H c (.list b)))(x:H D=none)(q:Qf b H)(S:Sat K N au ρ B ak os (upd H D (.list b)) s')(w:s'.heap.Ns C m)(F:Off N au B ak C)(f:¬FP (upd H D (.list b)) s'.heap C):
  BI M A Ex (some (assign (.Name y py) au)) (λ_ P=>∃p r,Q p r/\Sat K N au p B ak os r P) (.ref D) C (.ok .next) s':=by
 erw[cA (O.ofName j),(s _ _),<-bc (wpAny_assign_Name (xQ O S.raise j (λh=>by injection h) (.ref D) λs2 E=>?_)),xN w,(o I J a hr)];have t:=S.raised F f a;have U:=E.h.stays _ _ t;have g:=S.Hi S.stays (TZ O.JU s (λh=>by injection h)) E;have G:=E.vV t;refine⟨m,⟨o,I,J,U,hr⟩,λz u=>?_⟩;refine aD (g.Qq (s':={s2 with heap:=z}) F G (λe=>CV λo a R d=>d.elim λk d=>by
  rw[U] at a;injection a with a;subst a;rw[hr.1] at d;injection d) u.extBut g.h.gens g.h.os) ?_
 erw[(L _),<-⟨_,_,v H b q D x,L⟩]
theorem PE.no(h:PE K N au ρ B ak os l Du e s'):False:=by refine kI h ?_;intro _ _ _ _ _ x _;exact x
inductive TC(af:eA)(w:bY)(K:fg)(T:lS)(n:Nat)(N:dH)(A:Around)(l:List mq)(os:bL)(names:List (Str×dz)):List dh->Option E->Prop
 |none:TC af w K T n N A l os names [] none
 |some {c:dh} {m:E}:(∀dR dG,cU (mV names) (di N names) dR A l dG n->ST af w K T n (di N names) dR A l dG os m (isTrue c dR (eval c dR)))->TC af w K T n N A l os names [c] (some m)
theorem TC.run(h:TC af w K T n N A l os names ifs mc)(d:mq)(a:List (Addr×Obj))(E:cU (mV names) (di N names) d A l a n)(v:V)(B:Heap)(H:Hp)(s:Shared)(Q:Bool->Hp->Prop)(S:Sat K (di N names) d (upd ρ 1000 v) B a os H s)(q:wpC af w K T n mc (upd ρ 1000 v) H Q Du):
  bN (model af w) A (forIn ifs true λc r=>if r=true then do let ok<-isTrue c d (eval c d);pure (cw ok) else pure (cw r)) (PG K (di N names) d (upd ρ 1000 v) B a os (QB Q)) (λ_ _=>False) s:=by
 induction h using TC.casesOn with
 |none=>exact yb ⟨H,q,S⟩
 |some h=>exact ES (p_mono (h _ _ E _ _ _ _ _ _ S q) (λ_ _ z=>z) λ_ _ z=>z.no)
def PD(af:eA)(w:bY)(K:fg)(T:lS)(n:Nat)(ρ:Loc)(elt:E)(mc:Option E)(Qf:List V->Hp->Prop)(v:V)(H':Hp):Prop:=match v with
 | .ref a=>(match H' a with
   |some (.list vs)=>vs.length<=1000/\j8 (λv H Q=>dk af w K T n elt (upd ρ 1000 v) H Q Du) (λv H Q=>wpC af w K T n mc (upd ρ 1000 v) H Q Du) (λcI=>cI a=some (.list vs)) vs [] H' Qf
   |_=>False)
 |_=>False
theorem zQ(O:cU sc N au A l ak n)(F:scope.kind=.function)(M:Hx N x scope.names)(u:∀x,gw iter au x=pure x)(S:Sat K N au ρ B ak os H s)(h1:SE af w K T n N au A l ak os mit (eval iter au))(J:∀i k,cU (mV scope.names) (di N scope.names) i A l k n->SE af w K T n (di N scope.names) i A l k os GG (eval elt i))(L:TC af w K T n N A l os scope.names ifs mc)(o:∀D C m s' g j,g D=none->Qf j g->Sat K N au ρ B ak os (upd g D (.list j)) s'->s'.heap.Ns C m->Off N au B ak C->¬FP (upd g D (.list j)) s'.heap C->BI (model af w) A (PE K N au ρ B ak os l X) use Q' (.ref D) C (.ok .next) s')(h:dk af w K T n mit ρ H (λv g=>PD af w K T n ρ GG mc Qf v g) X):
  bN (model af w) A (comprehension (.ListComp elt [⟨.Name x px,iter,ifs,0⟩] scope pos) scope au p2 (newList []) false (eval iter au) use) Q' (PE K N au ρ B ak os l X) s:=by
 refine Qy (Qf:=Qf) O F M u S
  (λi k E v B H s Q S q=>p_mono (J _ _ E _ _ _ _ _ _ S q) (λ_ _ z=>z) λ_ _ z=>z.no) (λi k E v B H s Q S q=>L.run _ _ E v B H s Q S q) ?_
 refine iZ S (λR I=>h1 _ _ _ _ _ _ I h) λv s1 p=>bI λr y q G P=>⟨p,G,.inl ?_,λD C m s' g j a b c _ d e f=>o D C m s' g j a b c d e f⟩
 induction r using V.casesOn with
 |ref a=>
  have e:=y.inv;erw[ay (f_ (show jV p a _ from q)),(t e2 q),<-⟨a,t,e,e2,q.1,q.2⟩]
 |_=>exact q.elim
def Tq(af:eA)(w:bY)(K:fg)(T:lS)(n:Nat)(ρ:Loc)(elt:E)(Qf:List V->Hp->Prop)(v:V)(H':Hp):Prop:=∃k,v=.int k/\0<=k/\k<=1000/\
   j8 (λv H Q=>dk af w K T n elt (upd ρ 1000 v) H Q Du) (λ_ H Q=>Q true H) (λ_=>True) (gH 0 k) [] H' Qf
theorem BJ(O:cU sc N au A l ak n)(M:TabsOk T K)(F:scope.kind=.function)(W:Hx N x scope.names)(S:Sat K N au ρ B ak os H s)(I:(r !=("__debug__":Str))=true)(hr:(sc.lookup r==some .globalImplicit)=true)(G:T.glob r=some .nk)(u:(starEach [hi] au).any (·.1)=false)(h1:AN af w K T n N au A l ak os [PL] (spliced (backTo cp (starEach [hi] au))))(U:∀i o,cU (mV scope.names) (di N scope.names) i A l o n->SE af w K T n (di N scope.names) i A l o os GG (eval elt i))(p:∀D C m s' g j,g D=none->Qf j g->Sat K N au ρ B ak os (upd g D (.list j)) s'->s'.heap.Ns C m->Off N au B ak C->¬FP (upd g D (.list j)) s'.heap C->BI (model af w) A (PE K N au ρ B ak os l X) use Q' (.ref D) C (.ok .next) s')(h:dk af w K T n PL ρ H (λv g=>Tq af w K T n ρ GG Qf v g) X):
  bN (model af w) A (comprehension (.ListComp elt [⟨.Name x px,.Call (.Name r np) [hi] [] cp,[],0⟩] scope pos) scope au p2 (newList []) false (eval (.Call (.Name r np) [hi] [] cp) au) use) Q' (PE K N au ρ B ak os l X) s:=by
 refine Qy (Qf:=Qf) O F W (λ_=>rfl) S
  (λi o E v B H s Q S q=>p_mono (U _ _ E _ _ _ _ _ _ S q) (λ_ _ z=>z) λ_ _ z=>z.no) (λi o E v B H s Q S q=>yb ⟨H,q,S⟩) ?_
 erw[<-jj u (bc (yH O S I hr (M.nk _ G) ?_)),<-iZ S (λB' R=>AN.one h1 R h) λY s1 V=>(df · λv x e r q P T1=>?_)];subst e;erw[fc q];clear q;intro k J h0 y q;subst J;erw[bf r.inv,(t L)];subst L;erw[<-⟨kD,bc (call_range_1 ?_)⟩,<-⟨V,(P.push _).same rfl,.inr ⟨_,_,_,_,k,rfl,Fm _ _ _ _ _ _ _,h0,y,q⟩,λD C m s' g j a b c _ d e f=>p D C m s' g j a b c d e f⟩]
theorem SE.comp(O:cU sc N au A l ak n)(j:scope.kind=.function)(u:Hx N x scope.names)(t:∀x,gw iter au x=pure x)(h1:SE af w K T n N au A l ak os mit (eval iter au))(o:∀g i,cU (mV scope.names) (di N scope.names) g A l i n->SE af w K T n (di N scope.names) g A l i os GG (eval elt g))(p:TC af w K T n N A l os scope.names ifs mc):
  SE af w K T n N au A l ak os (.comp GG mit mc) (eval (.ListComp elt [⟨.Name x px,iter,ifs,0⟩] scope pos) au):=by
 intro ρ B H s Q X S h;rw[eval_ListComp];exact zQ O j u t S h1 o p (λD C m v r k a b c d e f=>As (λr k q=>q) a b c d e f) h
theorem SE.j6(O:cU sc N au A l ak n)(u:TabsOk T K)(j:scope.kind=.function)(z:Hx N x scope.names)(o:(r !=("__debug__":Str))=true)(hr:(sc.lookup r==some .globalImplicit)=true)(k:T.glob r=some .nk)(t:(starEach [hi] au).any (·.1)=false)(h1:AN af w K T n N au A l ak os [PL] (spliced (backTo cp (starEach [hi] au))))(v:∀g i,cU (mV scope.names) (di N scope.names) g A l i n->SE af w K T n (di N scope.names) g A l i os GG (eval elt g)):
  SE af w K T n N au A l ak os (.j6 GG PL) (eval (.ListComp elt [⟨.Name x px,.Call (.Name r np) [hi] [] cp,[],0⟩] scope pos) au):=by
 intro ρ B H s Q X S h;rw[eval_ListComp];exact BJ O u j z S o hr k t h1 v (λD C m E y p a b c d e f=>As (λy p q=>q) a b c d e f) h
section
open PySem.Builtin PySem.Builtin.Str
theorem G8{n:Int}(h:n.natAbs.log2<1920):(eK (toString n)).length<=1921:=by
 have e:=int_text_length_le (dc rfl) h;rw[Hf];assumption
theorem Jb(n:Int)(t u:Tok)(h1:n.natAbs.log2<1920)(h2:((n.natAbs:Nat):Int).natAbs.log2<1920)(hl:(eK (toString ((n.natAbs:Nat):Int))).length<=1921):
  Meets («str.__mod__» ⟨[.str ("no command is of kind %d":E5) t,.int n u],[]⟩) (λ_ R s=>∀T t' k,T.length<=3000->R (.ok (.ret (.str T t'))) {s with toks:=k}):=by
 erw[aj (show(("no command is of kind %d":E5))=⟨#[110,111,32,99,111,109,109,97,110,100,32,105,115,32,111,102,32,107,105,110,100,32,37,100]⟩ from by decide+kernel),Meets.of_wp,(af w A _ s hS)];rw[KPc.entry_is];unfold Builtin.Str.percentFormat;erw[<-wpAny_bind (wpAny_isInstance (typeIs_int _ _ _) F.sub_int_tuple ?_),<-wpAny_bind (wpAny_of_eq rfl ?_),<-wpAny_bind (wpAny_of_eq (KPc.fills _ _) ?_)]
 kpc_if
 erw[<-wpAny_bind (wpAny_pure ?_),wpAny_bind];rw[KPc.range_list];erw[KPc.start,(_ _)]
 (refine KPc.turn ?_;kpc_check;(repeat kpc_if);refine wpAny_pure ?_;kpc_piece)
 (refine KPc.turn ?_;kpc_check;(repeat kpc_if);refine wpAny_bind ?_;refine wpAny_holding ?_;(repeat kpc_if);kpc_conv;refine wpAny_pure ?_;refine wpAny_pure ?_)
 have E:∀a,(⟨(percentInt {type:=100} a (eK (toString ((n.natAbs:Nat):Int))).cps.toList).toArray⟩:E5).length<=1922:=λa=>by
  generalize eK (toString (n.natAbs:Nat))=z at hl⊢;have:=hl;unfold percentInt PySem.Str.length
  induction a using tQ<;>simp<;>(first|assumption|exact dK this rfl)
 erw[KPc.after_add (by kpc_g) rfl (by kpc_obj),(b g),KPc.turn,<-nE (KPc.ite_no (KPc.short_good g (aH (cV (E (decide (n<0))) _) (dc rfl))) ?_)]
 repeat kpc_if
 erw[wpAny_pure]
 kpc_if
 refine KPc.finish_ok g ?_ rfl ?_
 ·exact aH (cV (E (decide (n<0))) _) (dc rfl)
 ·erw[(t' k),<-⟨_,rfl,hS _ _ _ (aH g.len (aH (cV (E (decide (n<0))) _) (dc rfl)))⟩]
theorem pct{n:Int}(a:n.natAbs.log2<1920)(h:∀T t' k,T.length<=3000->Q (.str T t') {s with toks:=k}):
  bP (model af w) A (binaryOp .Mod (.str ("no command is of kind %d":E5) t) (.int n u)) Q Ex s:=by
 have e:((n.natAbs:Nat):Int).natAbs=n.natAbs:=rfl;exact AutoFloatOps.binaryOp_left_meets (dc rfl) (typeIs_str s _ t) (λb=>typeIs_int b n u) F.fills_str_mod F.fills_int_mod F.sub_int_str F.slot_str_mod F.slot_int_rmod F.entry_str_mod (F.args_str_mod_2 _ _)
  (Jb n t u a (aj e a) (G8 (aj e a))) (λT t' k hl=>⟨(λe=>nomatch e),h T t' k hl⟩)
end
theorem HY(h:big i):i.natAbs.log2<1920:=by
 unfold big at h
 by_cases h0:i.natAbs=0
 ·erw[aj h0];decide
 ·exact(Bt h0).mpr (aZ h (d0 (dc rfl) (dc rfl)))
def Kf(ρ:Loc):List E->List V->Prop
 |[],[]=>True
 |m::ms,v::vs=>((∃i,m=.loc i/\ρ i=some v)\/m=.cst v)/\Kf ρ ms vs
 |_,_=>False
theorem Nx(h:UB T N sc x m=true):(x !=("__debug__":Str))=true/\((∃i k,m=.loc i/\N.lookup x=some (k,i))\/∃i,m=.cst (.int i)/\(sc.lookup x==some .globalImplicit)=true/\T.glob x=some (.int i)):=by
 induction m using E.casesOn with
 |loc i=>
  erw[aD (zD (show DK N i x=true from h)),(h1 a),bf a,(k e),<-⟨h1,.inl ⟨i,k,rfl,e⟩⟩]
 |cst v=>
  induction v using V.casesOn with
  |int i=>
   erw[cA (iY (show qw sc (HN · i) T x=true from h)),(h3 h4 h5),<-⟨h3,.inr ⟨i,rfl,h4,D7 h5⟩⟩]
  |_=>exact Bool.noConfusion h
 |_=>exact Bool.noConfusion h
theorem Ip(h:wH e=true):NW T N sc ms (e::es)=(decide ((Jr e).length<=1000) &&NW T N sc ms es):=if_pos h
theorem Il(h:¬wH e=true)(c:NW T N sc ms (e::es)=true):∃m Q,ms=m::Q/\UB T N sc (zj (s1 e)) m=true/\NW T N sc Q es=true:=by
 have c:=(if_neg h).symm.trans (show(if wH e=true then _ else _)=true from c)
 induction ms using lcs with
 |nil=>exact Bool.noConfusion c
 |cons m ms=>
  have c:=ag.mp c;exact⟨m,ms,rfl,c.1,c.2⟩
theorem Ov(h:wH e=true):Ek k (e::es)=toStr e::Ek k es:=if_pos h
theorem Pl(h:¬wH e=true):Ek (k+1) (e::es)=.FormattedValue (pk (s1 e)) (-1) none (eY e)::Ek k es:=if_neg h
theorem vW:∀(p:List dh)(ms:List E)(Q:List V->Hp->Prop),NW T N sc ms p=true->gY af w K T n ms ρ H Q X->∃vs,Kf ρ ms vs/\Q vs H
 |[],[],Q,_,h=>⟨[],trivial,h⟩
 |[],m::ms,Q,c,_=>Bool.noConfusion c
 |e::es,ms,Q,c,h=>by
  by_cases b:wH e=true
  ·rw[Ip b] at c;exact vW es _ Q (ag.mp c).2 h
  ·erw[df (Il b c),(m f g o d)];subst g;rcases(Nx o).2 with⟨i,k,rfl,_⟩|⟨i,rfl,_⟩
   ·erw[ay (ze h),(v j h),ay (vW es f _ d h),(vs a q),<-⟨v::vs,⟨.inl ⟨i,rfl,j⟩,a⟩,q⟩]
   ·erw[ay (vW es f (λvs l=>Q (V.int i::vs) l) d h),(vs a q),<-⟨_::vs,⟨.inr rfl,a⟩,q⟩]
theorem Fq(O:cU sc N au A l ak n)(G:TabsOk T K):∀(x:List dh)(ms:List E)(vs:List V)(d:Str)(s:Shared),NW T N sc ms x=true->Kf ρ ms vs->(∀v∈vs,∃i,v=.int i/\big i)->d.length+1000*x.length<=9000->
  Sat K N au ρ B ak os H s->(∀o s1,o.length<=9000->Sat K N au ρ B ak os H s1->Qf o s1)->Joins (model af w) A Ex (evalEach (Ek ms.length x) au) d Qf s
 |[],ms,vs,d,s,_,_,_,hz,S,q=>q d s (by simpa using hz) S
 |e::es,ms,vs,d,s,c,a,hv,hz,S,q=>by
  have L:=sizeLine_eq;simp only[aU] at hz
  by_cases p:wH e=true
  ·rw[Ip p] at c;erw[aj (Ov p)];have c:=ag.mp c;have u:=of_decide_eq_true c.1;refine wpAny_Constant_str ⟨Jr e,_,rfl,?_,?_⟩
   ·rw[AY];exact aH (m:=9000) (gF [(zp av (zm 1000 (zs aW)),zn 9000),(bT,zn 1000)] (zp av bT,zn 9000) rt hz u) (by rw[sizeLine_eq];decide)
   ·exact Fq O G _ _ vs _ _ c.2 a hv (by rw[AY];exact gF [(zp av (zm 1000 (zs aW)),zn 9000),(bT,zn 1000)] (zp (zp av bT) (zm 1000 aW),zn 9000) rt hz u) (S.tok _) q
  ·erw[df (Il p c),(m Q P u U)];subst P;erw[aj aU,aj (Pl p)]
   induction vs using lcs with
   |nil=>exact a.elim
   |cons v vs=>
    erw[aD a,(J X),ay (hv _ j4),(i M F)];subst M;have D:=HY F;have I:(eK (toString i)).length<=401:=by
     have D:i.natAbs.log2<400:=by
      unfold big at F
      by_cases h0:i.natAbs=0
      ·erw[aj h0];decide
      ·exact(Bt h0).mpr F
     have e:=int_text_length_le (dc rfl) D;rw[Hf];assumption
    have g:∀t s1,Sat K N au ρ B ak os H s1->bP (model af w) A (formatField (.int i t) Hg) (λv W=>∃y t,v=.str y t/\(d++y).length<=ie/\Joins (model af w) A Ex (evalEach (Ek Q.length es) au) (d++y) Qf W) Ex s1:=λt s1 Y=>by
     refine wpAny_formatField_int D ⟨_,_,rfl,?_,?_⟩
     ·rw[AY];exact yj [(zp av aW,zn 9000),(zn 16777216,bT),(f9,zn 401)] (zp av f9,bT) rt hz (aa (ao L)) I
     ·exact Fq O G es Q vs _ _ U X (λv C=>hv v (fR C)) (by rw[AY];exact gF [(zp av (zm 1000 (zs aW)),zn 9000),(bT,zn 401)] (zp (zp av bT) (zm 1000 aW),zn 9000) rt hz I) (Y.tok _) q
    erw[aD (Nx u),(f nm),wpAny_FormattedValue_plain];rcases nm with⟨j,k,rfl,hN⟩|⟨j,rfl,hs,hg⟩
    ·have z:ρ j=some (.int i):=by
      rcases J with⟨i',e,h⟩|e
      ·injection e with e;subst e;exact h
      ·injection e
     exact wpAny_Name (Hw O S hN z λvv r=>by cases r with|int _ t=>exact g t _ S) (by simpa[bne] using f)
    ·have b:j=i:=by
      rcases J with⟨i',e,h⟩|e
      ·injection e
      ·cases e;rfl
     replace b:=b.symm;subst b;erw[bf (G.int _ _ hg),(t R),<-yH O S f hs R (g t _ S)]
theorem SE.WC(a:x.length<=1000):SE af w K T n N au A l ak os (.text []) (eval (.Constant (.str x) k pos) au):=by
 erw[(ρ B H s Q X S h),<-bc (wpAny_Constant_str ⟨H,⟨_,.text x _ (dK a rfl),h.2.2⟩,S.tok _⟩)]
theorem SE.XU(O:cU sc N au A l ak n)(e:TabsOk T K)(h2:2<=(Ek ms.length ps).length)(h8:ps.length<=8)(c:NW T N sc ms ps=true):SE af w K T n N au A l ak os (.text ms) (eval (.JoinedStr (Ek ms.length ps) pos) au):=by
 erw[(ρ B H s Q X S h),cX (vW ps ms _ c h.2),(v a d q)];generalize E:Ek ms.length ps=es at h2
 match es,h2,E with
 |p1::p2::rest,h2,E=>
  erw[<-bc (wpAny_JoinedStr ?_),c_ E,<-Fq O e ps ms v Hg s c a d ?_ S λo s1 b f=>⟨?_,H,⟨.text,?_,q⟩,f.tok _⟩]
  ·have:Hg.length=0:=rfl;exact fe [(av,zn 0),(zm 1000 aW,zm 1000 (zn 8))] (zp av (zm 1000 aW),zn 9000) rt (aa this) (aP 1000 h8)
  ·erw[aj sizeLine_eq,<-dK b rfl]
  ·exact .text o _ (dK b rfl)
theorem SE.VA(h1:SE af w K T n N au A l ak os m (eval e au)):
  SE af w K T n N au A l ak os (.text [m]) (eval (.BinOp (.Constant (.str ("no command is of kind %d":Str)) k p1) .Mod e pos) au):=by
 erw[(ρ B H s Q X S h),<-Hq (bc (wpAny_Constant_str ?_)),<-iZ (S.tok _) (λp d=>h1 _ _ _ _ (λv g=>(∀u∈[v],∃i,u=.int i/\big i)/\Q .text g) _ d h.2) λv s1 f=>(cX · λx r a q c o=>?_),ay (a x j4),(i e b)];subst e;erw[bf r.inv,(t e)];subst e;exact bc (pct (HY b) λT j k hl=>⟨f,⟨_,.text T _ (dK hl rfl),q⟩,c.tok _⟩)
variable{y:dh}
section
def Yo(af:eA)(w:bY)(K:fg)(T:lS)(n:Nat)(l:List mq)(os:bL)(k:Nat):Prop:=∀(m:E),sizeOf m<k->∀(y:dh)(N:dH) (sc:List (Str×dz)) (au:mq) (A:Around) (ak:List (Addr×Obj)),cU sc N au A l ak n->kG T N sc m y=true->
 SE af w K T n N au A l ak os m (eval (ja m y) au)/\ST af w K T n N au A l ak os m (isTrue (ja m y) au (eval (ja m y) au))
theorem wk(h:kG T N sc m y=true):y4 T N sc [m] [y]=true:=by
 show(kG T N sc m y&&true)=true;erw[aj h];rfl
theorem HR(h:S_ N x=true):(zg x).kind=.function/\Hx N (zj (pJ x).target) (zg x).names:=by
 have a:=ag.mp h;have b:=ag.mp a.2;exact⟨beq_iff_eq.mp a.1,Hx.of b.1 b.2⟩
theorem Iz(h:kG T N sc (.j6 elt hi) x=true):
  ((zg x).kind=.function/\Hx N (zj (pJ x).target) (zg x).names)/\qw sc Ii T (zj (s1 (pJ x).iter))=true/\kG T N sc hi (yo (oP (pJ x).iter))=true/\kG T (di N (zg x).names) (mV (zg x).names) elt (s1 x)=true:=
 have a:=ag.mp h;have b:=ag.mp a.2;have c:=ag.mp b.2
 ⟨HR a.1,b.1,c.1,c.2⟩
theorem KD(h:kG T N sc (.comp elt it c) x=true):
  ((zg x).kind=.function/\Hx N (zj (pJ x).target) (zg x).names)/\kG T N sc it (pJ x).iter=true/\okC T (di N (zg x).names) (mV (zg x).names) c (pJ x).ifs=true/\kG T (di N (zg x).names) (mV (zg x).names) elt (s1 x)=true:=
 have a:=ag.mp h;have b:=ag.mp a.2;have c:=ag.mp b.2
 ⟨HR a.1,b.1,c.1,c.2⟩
section
variable{k:Nat}
theorem Az(I:Yo af w K T n l os k)(O:cU sc N au A l ak n):
  ∀(ms:List E)(xs:List dh),sizeOf ms<k+1->y4 T N sc ms xs=true->AN af w K T n N au A l ak os ms (spliced (backTo pos (starEach (vI ms xs) au)))
 |[],_,_,_=>AN.nil
 |m::ms,xs,hz,h=>
  have h:=ag.mp h;have a:=hz
  AN.cons noStar (I m (Gw a) _ N sc au A ak O h.1).1 (Az I O ms xs.tail (GA a) h.2)
theorem XK(I:Yo af w K T n l os k)(O:cU sc N au A l ak n):
  ∀(m:Option E)(x:Option dh),sizeOf m<k+1->okO T N sc m x=true->SO af w K T n N au A l ak os m (evalPart (toO m x) au)
 |none,_,_,_=>SO.none
 |some m,x,hz,h=>
  SO.some (I m (YF hz) _ N sc au A ak O h).1
theorem F6(I:Yo af w K T n l os k)(O:cU sc N au A l ak n):
  ∀(ms:List E)(xs:List dh),sizeOf ms<k+1->y4 T N sc ms xs=true->Bl af w K T n N au A l ak os op ms (eval (.BoolOp op (vI ms xs) pos) au)
 |[],_,_,_=>λρ B H s Q X S h=>by
  induction op using BoolOp.casesOn
  ·exact False.elim h
  ·exact False.elim h
 |[m],xs,hz,h=>
  have h:=ag.mp h;have a:=hz
  Bl.one (I m (fe [(zs (zs (zp (zn 1) av)),zs aW)] (zs av,aW) rt a) _ N sc au A ak O h.1).1
 |m::m2::ms,xs,hz,h=>
  have h:=ag.mp h;have a:=hz
  Bl.more (I m (Gw a) _ N sc au A ak O h.1).1 (F6 I O (m2::ms) xs.tail (GA a) h.2)
theorem NL(I:Yo af w K T n l os k)(O:cU sc N au A l ak n):
  ∀(ms:List E)(xs:List dh),sizeOf ms<k+1->y4 T N sc ms xs=true->Of af w K T n N au A l ak os all ms (isTrue (.BoolOp (It all) (vI ms xs) pos) au whole)
 |[],_,_,_=>Of.nil
 |m::ms,xs,hz,h=>
  have h:=ag.mp h;have a:=hz
  Of.cons (I m (Gw a) _ N sc au A ak O h.1).2 (NL I O ms xs.tail (GA a) h.2)
theorem ST.no(h:∀ρ H Q X,¬tw af w K T n m ρ H Q X):ST af w K T n N au A l ak os m t:=λ_ _ _ _ _ _ _ q=>absurd q (h _ _ _ _)
theorem ST.R9(O:cU sc N au A l ak n)(i:TabsOk T K)(d:(x !=("__debug__":Str))=true)(a:(sc.lookup x==some .globalImplicit)=true)(b:T.glob x=some (.call c))(t:(starEach es au).any (·.1)=false)(h1:AN af w K T n N au A l ak os ms (spliced (backTo pos (starEach es au))))(e:∀f,c≠.fn f):ST af w K T n N au A l ak os (.call c ms) (isTrue (.Call (.Name x np) es [] pos) au (eval (.Call (.Name x np) es [] pos) au)):=by
 intro ρ B H s Q X S h;have g:gY af w K T n ms ρ H (λ_ _=>False) X:=by
  induction c using Ff.casesOn with
  |fn f=>exact absurd rfl (e f)
  |_=>exact h
 erw[<-sC ?_ rfl,<-jj t (bc (yH O S d a (i.call _ _ b).1 ?_)),<-iZ S (λu j=>h1 _ _ _ _ _ _ j g) λv s1 p=>(cX · λk r hl q o m=>q.elim)]
theorem TF(b:TabsOk T K)(O:cU sc N au A l ak n)(h:LN T sc v y=true):SE af w K T n N au A l ak os (.cst v) (eval (uF v y) au):=by
 unfold LN at h;unfold uF;cases q:isNm y with
 |true=>
  rw[q,if_pos rfl] at h;have h:=ag.mp h
  induction v using V.casesOn with
  |int i=>
   erw[cA (iY h.2),(h1 h2 h3),bf (b.int _ _ (D7 h3)),(t nm),<-SE.aby O h1 h2 nm]
  |_=>exact Bool.noConfusion h.1
 |false=>
  rw[q,if_neg hW] at h;cases a:Jj y with
  |true=>
   rw[a,if_pos rfl] at h
   induction v using V.casesOn with
   |int i=>
    have e:=SE.neg (af:=af) (w:=w) (K:=K) (T:=T) (n:=n) (N:=N) (au:=au) (A:=A) (l:=l) (ak:=ak) (os:=os) (c:= -i) (k:=kE (s1 y)) (pos:=eY (s1 y)) (p2:=eY y);rw[Int.neg_neg] at e;exact e
   |_=>exact Bool.noConfusion h
  |false=>
   rw[a,if_neg hW] at h;exact SE.cst h
end
theorem G4:isTrue (uF v y) au t=(do let u<-t;standAt (uF v y).pos;holding [u] (truthy u)):=by
 unfold uF;cases isNm y
 ·cases Jj y<;>rfl
 ·rfl
theorem snd(s:TabsOk T K):∀k,Yo af w K T n l os k
 |0=>λm g=>absurd g (uf _)
 |k+1=>λm g y N sc au A ak O h=>by
  have I:=snd s k;have hu:A.units+20<cLine:=by
   have:=O.ar.units;exact fe [(zk (zp av aW) 90,zn 9000)] (zs (zk av 20),zn 9900) rt this
  induction m using E.casesOn with
  |cst v=>
   have H:=TF (af:=af) (w:=w) (os:=os) s O h;exact⟨H,ST.leaf H G4 λρ H Q X q=>q⟩
  |loc i=>
   erw[aD (zD h),(h1 eI),bf eI,(kd e)];have H:=SE.name (af:=af) (w:=w) (K:=K) (T:=T) (pos:=eY y) (os:=os) O h1 e;exact⟨H,ST.leaf H rfl λρ H Q X q=>q⟩
  |and j=>
   rw[E.and.sizeOf_spec] at g;exact⟨SE.and (F6 I O j _ (by exact IM g) h),ST.and (NL (all:=true) I O j _ (by exact IM g) h)⟩
  |or j=>
   rw[E.or.sizeOf_spec] at g;exact⟨SE.or (F6 I O j _ (by exact IM g) h),ST.or (NL (all:=false) I O j _ (by exact IM g) h)⟩
  |not m=>
   have d:=g;have q:=I m (by exact YF d) _ N sc au A ak O h;exact⟨SE.not q.1,ST.not q.2⟩
  |ite c a b=>
   have h:=ag.mp h;have h2:=ag.mp h.2;have d:=g;have D:=I c (by exact F8 d) _ N sc au A ak O h.1;have C:=I a (by exact Jc d) _ N sc au A ak O h2.1;have R:=I b (by exact Mp d) _ N sc au A ak O h2.2;exact⟨SE.ite D.2 C.1 R.1,ST.ite D.2 C.2 R.2⟩
  |bin op a b=>
   have h:=ag.mp h;have h2:=ag.mp h.2;have d:=g;exact⟨SE.bin (I a (by exact Jc d) _ N sc au A ak O h2.1).1 (I b (by exact Mp d) _ N sc au A ak O h2.2).1,ST.no λρ H Q X q=>q⟩
  |cmp op a b=>
   have h:=ag.mp h;have h2:=ag.mp h.2;have d:=g;have D:=I a (by exact Jc d) _ N sc au A ak O h2.1;have C:=I b (by exact Mp d) _ N sc au A ak O h2.2;exact⟨SE.cmp hu h.1 D.1 C.1,ST.cmp hu h.1 D.1 C.1⟩
  |qG a r=>
   have d:=g;have q:=I a (by exact Gw d) _ N sc au A ak O h
   induction r using tQ with
   |false=>exact⟨SE.qG (neg:=false) q.1,ST.qG (neg:=false) q.1⟩
   |true=>exact⟨SE.qG (neg:=true) q.1,ST.qG (neg:=true) q.1⟩
  |attr o kk=>
   have h:=ag.mp h;have h2:=ag.mp h.2;have d:=g;have H:=SE.attr (pos:=eY y) (k:=kk) h2.1 (I o (by exact Gw d) _ N sc au A ak O h2.2).1;exact⟨H,ST.leaf H rfl λρ H Q X q=>q⟩
  |A0 o lo F=>
   have h:=ag.mp h;have h2:=ag.mp h.2;rw[E.A0.sizeOf_spec] at g;exact⟨SE.A0 (I o (by exact F8 g) _ N sc au A ak O h.1).1 (XK I O lo _ (yj [(zs (zp (zp av aW) bT),f9)] (zs aW,f9) rt g) h2.1) (XK I O F _ (by exact GA g) h2.2),ST.no λρ H Q X q=>q⟩
  |sub o i=>
   have h:=ag.mp h;have h2:=ag.mp h.2;have d:=g;have H:=SE.sub (pos:=eY y) h.1 (I o (by exact Gw d) _ N sc au A ak O h2.1).1 (I i (by exact Xr d) _ N sc au A ak O h2.2).1;exact⟨H,ST.leaf H rfl λρ H Q X q=>q⟩
  |tup j=>
   rw[E.tup.sizeOf_spec] at g;exact⟨SE.tup (Az I O j _ (by exact IM g) h),ST.no λρ H Q X q=>q⟩
  |lst j=>
   rw[E.lst.sizeOf_spec] at g;exact⟨SE.lst (Az I O j _ (by exact IM g) h),ST.no λρ H Q X q=>q⟩
  |bp o mm j=>
   have h:=ag.mp h;have B:=ag.mp h.2;have G:=ag.mp B.2;have g4:=ag.mp G.2;have g5:=ag.mp g4.2;rw[E.bp.sizeOf_spec] at g;have H:=SE.bp O s (of_decide_eq_true B.1) G.1 (of_decide_eq_true g4.1) h.1 fT (I o (by exact F8 g) _ N sc au A ak O g5.1).1 (Az I O j _ (by exact GA g) g5.2);exact⟨H,ST.leaf H rfl λρ H Q X q=>q⟩
  |call c j=>
   have h:=ag.mp h;have B:=ag.mp h.2;erw[cA (iY h.1),(V U S)];rw[E.call.sizeOf_spec] at g;have h6:=Az I O (pos:=eY y) j _ (by exact GA g) B.2;have H:=SE.call (np:=eY (s1 y)) O s V U (B3 S) fT h6;refine⟨H,?_⟩
   by_cases M:∃f,c=.fn f
   ·erw[bf M];clear M;intro f iL;subst iL;exact ST.leaf H rfl λρ H Q X q=>q
   ·exact ST.R9 O s V U (B3 S) fT h6 λf e=>M ⟨f,e⟩
  |j6 p F=>
   erw[dX (Iz h),(x L P J),cA (iY L),(g1 B G)];have d:=g;have hk:sizeOf [F]<k+1:=by
    have:0<sizeOf p:=by induction p using E.casesOn<;>first|exact Nat.one_pos|exact sz1|exact sz2|exact sz3
    exact gF [(zs (zn 0),av),(zs (zp (zp (zn 1) av) aW),bT)] (zs (zs (zp (zn 1) aW)),bT) rt this d
   exact⟨SE.j6 O s x.1 x.2 g1 B (wN G) (fT (ms:=[F]) (xs:=[_])) (Az I O [F] [_] hk (wk P)) (λt u z=>(I p (by exact Gw d) _ _ _ t A u z J).1),ST.no λρ H Q X q=>q⟩
  |comp p Y c=>
   erw[dX (KD h),(x L P J)];rw[E.comp.sizeOf_spec] at g;refine⟨?_,ST.no λρ H Q X q=>q⟩
   induction c using tT with
   |none=>exact SE.comp O x.1 x.2 wZ (I Y (by exact Jc g) _ N sc au A ak O L).1 (λt u z=>(I p (by exact F8 g) _ _ _ t A u z J).1) .none
   |some c'=>
    have d:=g;exact SE.comp O x.1 x.2 wZ (I Y (by exact Jc g) _ N sc au A ak O L).1 (λt u z=>(I p (by exact F8 g) _ _ _ t A u z J).1) (.some λt u z=>(I c' (gF [(zs (zp av (zp (zn 1) aW)),zs bT)] (zs aW,bT) rt d) _ _ _ t A u z P).2)
  |text j=>
   refine⟨?_,ST.no λρ H Q X q=>q⟩;have W:(decide (2<=(Ek j.length (oP y)).length) &&(decide ((oP y).length<=8) &&NW T N sc j (oP y)))=true->SE af w K T n N au A l ak os (.text j) (eval (.JoinedStr (Ek j.length (oP y)) (eY y)) au):=λh=>
    have h:=ag.mp h;have h2:=ag.mp h.2
    SE.XU O s (of_decide_eq_true h.1) (of_decide_eq_true h2.1) h2.2
   by_cases q:ji y=true
   ·induction j using lcs with
    |nil=>
     have e:ja (.text []) y=.JoinedStr (Ek 0 (oP y)) (eY y):=if_pos q;erw[aj e,<-W ((if_pos q).symm.trans (show(if ji y=true then _ else decide _)=true from h))]
    |cons m j=>
     have e:ja (.text (m::j)) y=.JoinedStr (Ek (m::j).length (oP y)) (eY y):=if_pos q;erw[aj e,<-W ((if_pos q).symm.trans (show(if ji y=true then _ else(j.isEmpty&&kG T N sc m (s2 y)))=true from h))]
   ·induction j using lcs with
    |nil=>
     have h:=(if_neg q).symm.trans (show(if ji y=true then _ else decide _)=true from h);have e:ja (.text []) y=toStr y:=if_neg q;erw[aj e,<-SE.WC (of_decide_eq_true h)]
    |cons m j=>
     have h:=(if_neg q).symm.trans (show(if ji y=true then _ else(j.isEmpty&&kG T N sc m (s2 y)))=true from h);have h:=ag.mp h;have e:ja (.text (m::j)) y=.BinOp (.Constant (.str ("no command is of kind %d":Str)) (kE (s1 y)) (eY (s1 y))) .Mod (ja m (s2 y)) (eY y):=if_neg q;erw[aj e]
     induction j using lcs with
     |nil=>
      rw[E.text.sizeOf_spec] at g;have d:=g;exact SE.VA (I m (fe [(zs (zp (zn 1) (zs (zp (zn 1) av))),zs aW)] (zs av,aW) rt d) _ N sc au A ak O h.2).1
     |cons=>exact Bool.noConfusion h.1
  |JO=>
   erw[aD (zD h),(h1 kZ),bf kZ,(kd e),<-⟨SE.JO s O h1 e,ST.no λρ H Q X q=>q⟩]
variable{m:E}
theorem gj(a:TabsOk T K)(O:cU sc N au A l ak n)(h:kG T N sc m y=true):SE af w K T n N au A l ak os m (eval (ja m y) au):=(snd a (sizeOf m+1) m (gS _) y N sc au A ak O h).1
theorem FH(a:TabsOk T K)(O:cU sc N au A l ak n)(h:kG T N sc m y=true):ST af w K T n N au A l ak os m (isTrue (ja m y) au (eval (ja m y) au)):=(snd a (sizeOf m+1) m (gS _) y N sc au A ak O h).2
theorem CS(a:TabsOk T K)(O:cU sc N au A l ak n)(h:y4 T N sc ms xs=true):AN af w K T n N au A l ak os ms (spliced (backTo pos (starEach (vI ms xs) au))):=Az (snd a (sizeOf ms)) O ms xs (gS _) h
end
structure Rg(sc:List (Str×dz))(N:dH)(au:mq)(A:Around)(l:List mq)(ak:List (Addr×Obj))(n:Nat):Prop where
 e:cU sc N au A l ak n
 own:au.frame=some au.locals
 first:∃outer,l=au::outer
inductive N3|any|seen|held
def At(st:N3)(B:Heap)(l:List mq)(L e C:Addr)(h:Heap):Prop:=match st with
 | .any=>Way B l e (.ref C) .none h\/Way B l e (.ref C) (rawInt L) h\/rS B l e (.ref C) h
 | .seen=>Way B l e (.ref C) .none h\/Way B l e (.ref C) (rawInt L) h
 | .held=>Way B l e (.ref C) (rawInt L) h
theorem At.any{B:Heap}{l:List mq}(x:At .seen B l L e C h):At .any B l L e C h:=by
 rcases x with x|x
 ·exact .inl x
 ·exact .inr (.inl x)
theorem At.seen{B:Heap}{l:List mq}(x:At .held B l L e C h):At .seen B l L e C h:=.inr x
def PX(K:fg)(N:dH)(au:mq)(B:Heap)(ak:List (Addr×Obj))(os:bL)(l:List mq)(st:N3)(X:Addr->Hp->Prop)(e:Value)(s':Shared):Prop:=
 ∃ea C H' ew,e=.ref ea/\X C H'/\Sat K N au ew B ak os H' s'/\At st B l au.locals ea C s'.heap
theorem PE.px(h:PE K N au ρ B ak os l X e s')(st:N3)(a:st≠.held):PX K N au B ak os l st X e s':=by
 erw[iR h,(b C c H e1 x S F),<-⟨b,C,H,ρ,e1,x,S,?_⟩]
 induction st using N3.casesOn with
 |any=>exact .inl F
 |seen=>exact .inl F
 |held=>exact absurd rfl a
theorem Sat.ups(S:Sat K N au ρ B ak os H s)(k:s.heap.UpToSlots h')(a:B.StaysIn h'):Sat K N au ρ B ak os H {s with heap:=h'}:=
 S.keep (jt.J4 k) a (λ_ _=>id) (λ_ _ _=>id) (λ_ _=>id) (λ_ _=>id) S.h.gens S.h.os
theorem DL(f:A.frames=some l)(O:Rg sc N au A l ak n)(h:PX K N au B ak os l .seen X e s):kH M A au (PX K N au B ak os l .held X) e s:=by
 erw[iR h];clear h;intro b C H a d x S F;subst d;erw[bf O.first,(o i)];subst i;erw[bc];rcases F with F|F
 ·exact vT f O.own F λg c k=>⟨b,C,H,a,rfl,x,S.ups k c.1,c⟩
 ·exact tA O.own F ⟨b,C,H,a,rfl,x,S,F⟩
theorem v8(O:Rg sc N au A l ak n)(h:PX K N au B ak os l .held X e s):oi M A au (PX K N au B ak os l .held X) e s:=by
 erw[iR h];clear h;intro d C H c b x S F;subst b;unfold oi;erw[aj O.own,<-bc (Ri F (kW (some au.locals) F λf a k=>⟨d,C,H,c,rfl,x,S.ups k a.1,a⟩))]
variable{st:N3}
theorem PX.to(b:st≠.held)(h:PX K N au B ak os l .held X e s'):PX K N au B ak os l st X e s':=by
 erw[iR h,(d C H c e1 x S a),<-⟨d,C,H,c,e1,x,S,?_⟩]
 induction st using N3.casesOn with
 |any=>exact a.seen.any
 |seen=>exact a.seen
 |held=>exact absurd rfl b
structure tW(sc:List (Str×dz))(N:dH)(au:mq)(A:Around)(l:List mq)(ak:List (Addr×Obj))(n:Nat):Prop where
 s:Rg sc N au A l ak n
 R4:∀x k i,(x,k,i)∈N->k≠.ro
theorem tW.e(O:tW sc N au A l ak n):cU sc N au A l ak n:=O.s.e
theorem Sat.Eh(O:tW sc N au A l ak n)(G:Sat K N au ρ B ak os H s)(k:B.StaysIn B')(S:Sat K N au ew B' ak os H' s'):Sat K N au ew B ak os H' s':=
 G.Hi k (λx i m=>absurd rfl (O.R4 _ _ _ m)) S
def PF(K:fg)(N:dH)(au:mq)(B:Heap)(ak:List (Addr×Obj))(os:bL)(Q:Fl->Loc->Hp->Prop)(f:Flow)(s':Shared):Prop:=match f with
 | .next=>∃ew H',Q .next ew H'/\Sat K N au ew B ak os H' s'
 | .brk=>∃ew H',Q .brk ew H'/\Sat K N au ew B ak os H' s'
 | .ret v=>∃x ew H',c9 s'.heap v x/\Q (.ret x) ew H'/\Sat K N au ew B ak os H' s'
 | .cont=>False
def SS(af:eA)(w:bY)(K:fg)(T:lS)(n:Nat)(N:dH)(au:mq)(A:Around)(l:List mq)(ak:List (Addr×Obj))(os:bL)(st:N3)(m:Mine.S)(t:Sem Flow):Prop:=
 ∀ρ B H s Q X,Sat K N au ρ B ak os H s->wpS af w K T n m ρ H Q X->bN (model af w) A t (PF K N au B ak os Q) (PX K N au B ak os l st X) s
def Cc(af:eA)(w:bY)(K:fg)(T:lS)(n:Nat)(N:dH)(au:mq)(A:Around)(l:List mq)(ak:List (Addr×Obj))(os:bL)(st:N3)(m:List Mine.S)(t:Sem Flow):Prop:=
 ∀ρ B H s Q X,Sat K N au ρ B ak os H s->bO af w K T n m ρ H Q X->bN (model af w) A t (PF K N au B ak os Q) (PX K N au B ak os l st X) s
theorem qi(d:st≠.held)(S:Sat K N au ρ B ak os H s)(h:∀b,Sat K N au ρ b ak os H s->bN M A t (PG K N au ρ b ak os Qa) (PE K N au ρ b ak os l X) s)(k:∀a s' c,Qa a s'.heap c->Sat K N au ρ B ak os c s'->dM s.heap s'.heap->G a s'):bN M A t G (PX K N au B ak os l st X) s:=
 p_mono (iZ S h k) (λ_ _ z=>z) λ_ _ z=>z.px st d
theorem Cc.nil:Cc af w K T n N au A l ak os st [] (execs [] au):=λρ B H s Q X S h=>by
 exact nU ⟨ρ,H,h,S⟩
theorem Cc.cons(h1:SS af w K T n N au A l ak os st m (exec Vh au))(h2:Cc af w K T n N au A l ak os st ms (execs rest au)):Cc af w K T n N au A l ak os st (m::ms) (execs (Vh::rest) au):=λρ B H s Q X S h=>by
 refine wx (p_mono (h1 _ _ _ _ _ _ S h) (λf s1 q=>?_) λ_ _ z=>z)
 induction f using Flow.casesOn with
 |next=>refine dg q ?_;clear q;intro e b q a;exact h2 _ _ _ _ _ _ a q
 |brk=>refine dg q ?_;clear q;intro e b q a;exact⟨e,b,q,a⟩
 |ret v=>refine iB q ?_;clear q;intro x e b r q a;exact⟨x,e,b,r,q,a⟩
 |cont=>exact q
theorem SS.pass:SS af w K T n N au A l ak os st .pass (exec (.Pass pos) au):=λρ B H s Q X S h=>by
 exact Ui ⟨ρ,H,h,S⟩
theorem SS.brk:SS af w K T n N au A l ak os st .brk (exec (.Break pos) au):=λρ B H s Q X S h=>by
 exact OX ⟨ρ,H,h,S⟩
theorem SS.aaw:SS af w K T n N au A l ak os st (.ret none) (exec (.Return none pos) au):=λρ B H s Q X S h=>by
 exact Bh ⟨_,ρ,H,.none,h,S⟩
theorem SS.ret(a:st≠.held)(h1:SE af w K T n N au A l ak os m (eval e au)):SS af w K T n N au A l ak os st (.ret (some m)) (exec (.Return (some e) pos) au):=λρ B H s Q X S h=>by
 exact Kt (qi a S (λg c=>h1 _ _ _ _ _ _ c h) λv s1 d=>bI λx r q b f=>⟨x,ρ,d,r,q,b⟩)
theorem SS.if{mt:E}(e:st≠.held)(h1:ST af w K T n N au A l ak os mt (isTrue t au (eval t au)))(h2:Cc af w K T n N au A l ak os st ma (execs a au))(h3:Cc af w K T n N au A l ak os st mb (execs b au)):
  SS af w K T n N au A l ak os st (.dm mt ma mb) (exec (.If t a b pos) au):=λρ B H s Q X S h=>by
 refine aaP (p_mono (h1 _ _ _ _ _ _ S h) (λc s1=>bI λf q d=>?_) λ_ _ z=>z.px st e);unfold QB at q
 induction c using tQ with
 |true=>simp only[if_true] at q⊢;exact h2 _ _ _ _ _ _ d q
 |false=>simp only[jR,if_false] at q⊢;exact h3 _ _ _ _ _ _ d q
theorem Em(h:qg e=true)(f:mW e=true):swapsWith e t k au=pure false:=by
 induction e using Expr.casesOn with
 |ListComp=>exact Bool.noConfusion h
 |SetComp a b c d=>exact Bool.noConfusion f
 |DictComp a b c d f=>exact Bool.noConfusion f
 |_=>rfl
theorem SS.expr(O:cU sc N au A l ak n)(a:st≠.held)(b:qg e=true)(c:mW e=true)(h1:SE af w K T n N au A l ak os m (eval e au)):SS af w K T n N au A l ak os st (.expr m) (exec (.Expr e pos) au):=λρ B H s Q X S h=>by
 erw[RX (by unfold interactive;erw[aj O.kind];rfl) (Em b c),<-qi a S (λj f=>h1 _ _ _ _ _ _ f h) λv s1 g=>bI λx r q d i=>⟨ρ,g,q,d⟩]
theorem GO(g:mW e=true):swapsWith e (some (.Attribute o f px)) k au=pure false:=by
 induction e using Expr.casesOn with
 |SetComp a b c d=>exact Bool.noConfusion g
 |DictComp a b c d f=>exact Bool.noConfusion g
 |_=>rfl
theorem IY(g:mW e=true):swapsWith e (some (.Subscript o i px)) k au=pure false:=by
 induction e using Expr.casesOn with
 |SetComp a b c d=>exact Bool.noConfusion g
 |DictComp a b c d f=>exact Bool.noConfusion g
 |_=>rfl
theorem SS.cD(b:st≠.held)(g:mW e=true)(h1:SE af w K T n N au A l ak os m (eval e au))(h2:SE af w K T n N au A l ak os mo (eval o au)):
  SS af w K T n N au A l ak os st (.cD mo k m) (exec (.Assign [.Attribute o (atName k) px] e pos) au):=λρ B H s Q X S h=>by
 erw[<-u7 (GO g) (qi b S (λy a=>h1 _ _ _ _ _ _ a h) λv s1 G=>bI λx r q t E=>?_),<-qi b t (λy a=>h2 _ _ _ _ _ _ a q) λD s2 F=>bI λC c f p i=>?_,<-bc (wpAny_mono (DM (Ex:=λ_ _=>False) c (r.mono i) p f) (λ_ s3=>bI λu d j=>⟨ρ,u,d,j⟩) λ_ _ z=>z.elim)]
theorem SS.hK(c:st≠.held)(u:mW e=true)(h1:SE af w K T n N au A l ak os m (eval e au))(h2:SE af w K T n N au A l ak os mo (eval o au))(h3:SE af w K T n N au A l ak os mi (eval i au)):
  SS af w K T n N au A l ak os st (.hK mo mi m) (exec (.Assign [.Subscript o i px] e pos) au):=λρ B H s Q X S h=>by
 erw[<-vy (IY u) (qi c S (λj a=>h1 _ _ _ _ _ _ a h) λv s1 L=>bI λx r q D I=>?_),<-qi c D (λj a=>h2 _ _ _ _ _ _ a q) λG s2 J=>bI λE k t C y=>?_,<-qi c C (λj a=>h3 _ _ _ _ _ _ a t) λvi s3 g=>bI λF p b d f=>?_,<-bc (wpAny_mono (L7 (Ex:=λ_ _=>False) (k.mono f) p ((r.mono y).mono f) d b) (λ_ s3=>bI λg b d=>⟨ρ,g,b,d⟩) λ_ _ z=>z.elim)]
theorem SS.while{mt:E}(O:tW sc N au A l ak n)(g:st≠.held)(h1:ST af w K T n N au A l ak os mt (isTrue t au (eval t au)))(h2:Cc af w K T n N au A l ak os .seen mb (execs b au)):
  SS af w K T n N au A l ak os st (.oK mt mb) (exec (.While t b [] pos) au):=λρ B H s Q X S h=>by
 erw[OW];have o:=O.e.ar.frames;have up:∀{e a},PX K N au B ak os l .seen X e a->kH (model af w) A au (λe a=>oi (model af w) A au (PX K N au B ak os l st X) e a) e a:=λz=>
  p_mono (DL o O.s z) (λ_ s2 k=>p_mono (v8 O.s k) (λ_ _ z=>PX.to g z) λ_ _ z=>PX.to g z) λ_ s2 k=>p_mono (v8 O.s k) (λ_ _ z=>PX.to g z) λ_ _ z=>PX.to g z
 refine h (λρ H=>∀s,Sat K N au ρ B ak os H s->dU (model af w) A (.whileLoop t b [] au) (λr a=>match r with
  | .ok f=>PF K N au B ak os Q f a
  | .error e=>oi (model af w) A au (PX K N au B ak os l st X) e a) s) (λρ H step s S=>?_) s S
 refine My (p_mono (h1 _ _ _ _ _ _ S step) (λc s1=>bI λp q m=>?_) λ_ _ z=>up (z.px .seen (by intro h;injection h)));unfold QB at q
 induction c using tQ with
 |false=>simp only[jR,if_false] at q⊢;exact⟨ρ,p,q,m⟩
 |true=>
  simp only[if_true] at q⊢;refine p_mono (h2 _ _ _ _ _ _ m q) (λf s2 z=>?_) λ_ _ z=>up z
  induction f using Flow.casesOn with
  |next=>refine dg z ?_;intro i j q d;exact q s2 d
  |brk=>refine dg z ?_;intro i j q d;exact⟨i,j,q,d⟩
  |ret v=>refine iB z ?_;intro x i j r q d;exact⟨x,i,j,r,q,d⟩
  |cont=>exact z.elim
theorem FY:∃b:Bool,swapsWith (.ListComp elt gens scope pos) (some (.Name x px)) k au=pure b/\(b=true->au.kindOf x=some .local):=by
 refine⟨au.blockKind== .function&&au.kindOf x==some .local&&px.line==pos.line&&!(scope.names.any λ(n,k)=>n==x&&(k== .local||k== .cell)),rfl,λh=>?_⟩;simp only[Bool.and_eq_true,beq_iff_eq] at h;exact h.1.1.2
theorem DU(O:cU sc N au A l ak n)(b:st≠.held)(d:N.lookup x=some (k,i))(c:k≠.ro)(a:swapsWith e (some (.Name x px)) pos.line au=pure false)(h1:SE af w K T n N au A l ak os m (eval e au)):
  SS af w K T n N au A l ak os st (.bq i m) (exec (.Assign [.Name x px] e pos) au):=λρ B H s Q X S h=>by
 exact Bp a (qi b S (λu j=>h1 _ _ _ _ _ _ j h) λv s1 o=>bI λp r q g t=>xQ O g d c r λs2 f=>⟨_,o,q,f⟩)
theorem RZ(O:cU sc N au A l ak n)(a:N.lookup x=some (k,i))(h:au.kindOf x=some .local):k=.loc:=by
 have:=(O.ofName a).2.1;rw[h] at this
 induction k using Kd.casesOn<;>first|rfl|cases this
theorem WX(m:E)(y:dh):qg (ja m y)=true\/(∃elt h,m=.j6 elt h)\/∃elt i c,m=.comp elt i c:=by
 induction m using E.casesOn with
 |j6 a b=>exact .inr (.inl ⟨a,b,rfl⟩)
 |comp a b c=>exact .inr (.inr ⟨a,b,c,rfl⟩)
 |cst v=>exact .inl (by show qg (uF v y)=true;unfold uF;cases isNm y<;>cases Jj y<;>rfl)
 |text d=>exact .inl (by
   induction d using lcs with
   |nil=>
    show qg (if ji y=true then .JoinedStr _ _ else toStr y)=true;cases ji y<;>rfl
   |cons m d=>
    show qg (if ji y=true then .JoinedStr _ _ else .BinOp _ _ _ _)=true;cases ji y<;>rfl)
 |_=>exact .inl rfl
theorem SS.bq{y:dh}(r:TabsOk T K)(O:cU sc N au A l ak n)(P:st≠.held)(p:N.lookup x=some (k,i))(G:k≠.ro)(W:kG T N sc m y=true):
  SS af w K T n N au A l ak os st (.bq i m) (exec (.Assign [.Name x px] (ja m y) pos) au):=by
 have h1:SE af w K T n N au A l ak os m (eval (ja m y) au):=gj r O W;have I:∀{o:dh} {j:List tM} {g:Scope} {F:Pos},SE af w K T n N au A l ak os m (eval (.ListComp o j g F) au)->
   (k=.loc->∀ρ B H s (Q:Fl->Loc->Hp->Prop) X,Sat K N au ρ B ak os H s->dk af w K T n m ρ H (λv u=>Q .next (upd ρ i v) u) X->
    bN (model af w) A (comprehension (.ListComp o j g F) g au (firstIterPos j F) (newList []) (firstAsync j) (firstIter j au) (some (assign (.Name x px) au))) (λ_ CD=>∃ew cI,Q .next ew cI/\Sat K N au ew B ak os cI CD) (PE K N au ρ B ak os l X) s)->
   SS af w K T n N au A l ak os st (.bq i m) (exec (.Assign [.Name x px] (.ListComp o j g F) pos) au):=λ{o j g F} h1 f=>by
  erw[ay (FY (au:=au) (elt:=o) (gens:=j) (scope:=g) (pos:=F) (px:=px) (x:=x) (k:=pos.line)),(b hb hl)]
  induction b using tQ with
  |false=>exact DU O P p G hb h1
  |true=>
   have f:=f (RZ O p (hl rfl));erw[(ρ B H s Q X S h),Bn hb,<-az (p_mono (f ρ B H s Q X S h) (λ_ _ z=>bh z) λ_ _ z=>z.px st P)]
 rcases WX m y with hc|hc|hc
 ·exact DU O P p G (Em hc (tE m y)) h1
 ·erw[gI hc,(o hi R)];subst R;erw[dX (Iz W),(t M Y L),cA (iY M),(g1 g2 g3),I h1,(G ρ B H s Q X S h)];have p:=G▸p;exact BJ O r t.1 t.2 S g1 g2 (wN g3) (fT (ms:=[hi])) (CS r O (wk Y)) (λU V E=>gj r E L)
   (λD C m s' u J a b c d e f=>uY O p (λu J q=>q) a b c d e f) h
 ·erw[TB hc,(o it c R)];subst R;erw[dX (KD W),(t M Y L),I h1,(G ρ B H s Q X S h)];have p:=G▸p
  induction c using tT with
  |none=>
   exact zQ O t.1 t.2 wZ S (gj r O M) (λU V E=>gj r E L) .none
    (λD C m s' u J a b c d e f=>uY O p (λu J q=>q) a b c d e f) h
  |some c=>
   exact zQ O t.1 t.2 wZ S (gj r O M) (λU V E=>gj r E L) (.some λU V E=>FH r E Y)
    (λD C m s' u J a b c d e f=>uY O p (λu J q=>q) a b c d e f) h
theorem HA:∀{is:List Nat} {xs:List dh},(assignEach (Au is xs) au).length=is.length/\(assignEach (Au is xs) au).findIdx? (·.1)=none
 |[],_=>⟨rfl,rfl⟩
 |i::is,xs=>by
  erw[aD (HA (is:=is) (xs:=xs.tail)),(a b)];have e:assignEach (Au (i::is) xs) au=(false,assign (pk (yo xs)) au)::assignEach (Au is xs.tail) au:=rfl;erw[aj e,<-⟨by erw[aj aU,aj aU,aj a];rfl,?_⟩,aj (List.findIdx?_cons),aj b];rfl
theorem HH(O:cU sc N au A l ak n):∀(is:List Nat)(xs:List dh)(b:List Value)(vs:List V)(ρ:Loc)(s:Shared),Nw N is xs=true->vs.length=is.length->Sat K N au ρ B ak os H s->bU s.heap b vs->(∀s',Sat K N au (Dg is vs ρ) B ak os H s'->Q () s')->
  bP M A (assignInOrder ((assignEach (Au is xs) au).map (·.2)) b) Q Ex s
 |[],_,b,vs,ρ,s,_,hl,S,r,q=>by
  induction vs using lcs with
  |nil=>cases r;exact wpAny_pure (q s S)
  |cons=>injection hl
 |i::is,xs,b,vs,ρ,s,h,hl,S,r,q=>by
  have h:=ag.mp (show(EA N i (zj (yo xs)) &&Nw N is xs.tail)=true from h);have e:=wb h.1;cases r with
  |nil=>injection hl
  |cons g f=>
   rename_i v xv b vs;erw[assignInOrder_cons,<-wpAny_assign_Name (xQ O S.raise e (λh=>by injection h) g λs2 E=>?_)];have d:=f.mono λa c j=>dM.of_stays E.h.stays _ _ (S.v_ _ _ j);erw[cA (O.ofName e),(m _ _)];have k:=S.Hi S.stays (TZ O.JU m (λh=>by injection h)) E;exact HH O is xs.tail b vs _ s2 h.2 (by simpa using hl) k d q
theorem SS.zB(O:cU sc N au A l ak n)(D:st≠.held)(E:HB e=true)(G:Nw N is xs=true)(h1:SE af w K T n N au A l ak os m (eval e au)):
  SS af w K T n N au A l ak os st (.zB is m) (exec (.Assign [.Tuple (Au is xs) k px] e pos) au):=λρ B H s Q X S h=>by
 rw[arm_exec_Assign]
 induction e using Expr.casesOn with
 |Call f c d p=>
  erw[<-az (bz (az ?_)),<-tV (show swapsWithSole [.Tuple (Au is xs) k px] (.Call f c d p) pos.line au=pure false from rfl) (bh ?_),<-az (qi D S (λU i=>h1 _ _ _ _ _ _ i h) λv s1 P=>bI λx z=>(fc · λu e hl h8 q g R=>?_))];subst e;refine az (tV (show swappedStores [.Tuple (Au is xs) k px] (.Call f c d p) au=pure none from rfl) (bh ?_));show bN _ A (assign (.Tuple (Au is xs) k px) au v>>= λ_=>pure Flow.next) _ _ s1;erw[df (Lg z),(a L F C r)];subst F;erw[aD (HA (au:=au) (is:=is) (xs:=xs)),(J I),<-bc (wpAny_bind (wpAny_assign_Tuple O.ar.handled C (aj J (aj kJ (aj r.length (aj hl rfl)))) I λt k=>?_))];have j:∀b o,s1.heap.get? b=some o->t.get? b=some o:=λb o e=>k b o (zy (eO e)) e;have M:=g.grow (s':={s1 with heap:=t}) j g.h.gens g.h.os;exact HH O is xs L u ρ _ G hl M (r.mono (jt.tup (jt.of_keeps j) λ_ _ _=>id)) λy i=>wpAny_pure ⟨_,P,q,i⟩
 |_=>exact Bool.noConfusion E
theorem At.down{B:Heap}(k:B.StaysIn B')(x:At st B' l L e C h):At st B l L e C h:=by
 induction st using N3.casesOn with
 |any=>
  rcases x with x|x|x
  ·exact .inl (x.down k)
  ·exact .inr (.inl (x.down k))
  ·exact .inr (.inr (x.down k))
 |seen=>
  rcases x with x|x
  ·exact .inl (x.down k)
  ·exact .inr (x.down k)
 |held=>exact Way.down k x
theorem PX.down(h:PX K N au B' ak os l st X e s')(k:B.StaysIn B')(S:Sat K N au ρ B ak os H s)(O:tW sc N au A l ak n):PX K N au B ak os l st X e s':=by
 erw[iR h,(c C f b e1 x d a),<-⟨c,C,f,b,e1,x,Sat.Eh O S k d,a.down k⟩]
theorem YU(c:DI op=true)(S:Sat K N au ρ B ak os H s)(h:kv op (.int a) (.int b) H Q):bP (model af w) A (inplaceOp op (.int a t) (.int b u)) (PV K N au ρ B ak os Q) Ex s:=by
 induction op using Operator.casesOn<;>first|cases c|skip
 ·exact AutoIntOps.iadd_0 (PV.int S h)
 ·unfold kv at h;erw[aD h,(h0 q),<-irshift_int h0 (PV.int S q)]
 ·exact ior_int (PV.int S h)
theorem SS.pj(O:cU sc N au A l ak n)(p:st≠.held)(y:DI op=true)(c:N.lookup x=some (k,i))(C:k≠.ro)(h1:SE af w K T n N au A l ak os m (eval e au)):
  SS af w K T n N au A l ak os st (.pj i op m) (exec (.AugAssign (.Name x px) op e pos) au):=λρ B H s Q X S h=>by
 erw[ay h];clear h;erw[(u o h),<-xR (bc (Hw O S c o λL f=>?_)),<-qi p S (λU G=>h1 _ _ _ _ _ _ G h) λv s1 R=>bI λJ d=>(df · λa b e1 e2 q F P=>?_)];subst e1;subst e2;cases f with
 |int _ t=>
  cases d with
  |int _ u=>
   erw[<-bc (wpAny_mono (YU (Ex:=λ_ _=>False) y F q) (λM s2=>(df · λr I g j E=>?_)) λ_ _ z=>z.elim),<-xQ O E c C g λs3 D=>⟨_,I,j,D⟩]
theorem SS.Dk(d:st≠.held)(M:DI op=true)(h1:SE af w K T n N au A l ak os mo (eval o au))(h2:SE af w K T n N au A l ak os m (eval e au)):
  SS af w K T n N au A l ak os st (.Dk mo f op m) (exec (.AugAssign (.Attribute o (atName f) px) op e pos) au):=λρ B H s Q X S h=>by
 erw[<-q8 (qi d S (λx c=>h1 _ _ _ _ _ _ c h) λov s1 H1=>bI λD y q S1 T1=>?_),<-qi d S1 (λx c=>bc (wpAny_mono (attrS (Q:=λu H'=>dk af w K T n m ρ H' (λv O=>∃a b,u=V.int a/\v=V.int b/\kv op u v O λr i=>kX D f r i λC=>Q Fl.next ρ C) X) y c q) (λ_ _ z=>z.g) λ_ _ z=>z)) λL s2 H2=>bI λxu F J Y U=>?_,<-qi d Y (λx c=>h2 _ _ _ _ _ _ c J) λv s3 i=>bI λxv E=>(df · λa b e1 e2 k p R=>?_)];subst e1;subst e2;have j:=(y.mono U).mono R;cases F with
 |int _ t=>
  cases E with
  |int _ u=>
   erw[<-qi d p (λx c=>bc (wpAny_mono (YU M c k) (λ_ _ z=>z.g) λ_ _ z=>z)) λnw s4 C=>bI λr G I W P=>?_,<-bc (wpAny_mono (DM (Ex:=λ_ _=>False) (j.mono P) G W I) (λ_ s3=>bI λi k p=>⟨ρ,i,k,p⟩) λ_ _ z=>z.elim)]
theorem EB{St:List V->Heap->Prop}(O:tW sc N au A l ak n)(L:st≠.held)(hN:N.lookup x=some (.loc,i))(j:Nk af w A K I qV St)(G:Off N au B ak I)(h2:Cc af w K T n N au A l ak os .seen mb (execs body au)):
  ∀(a:List V)(ρ:Loc)(H:Hp)(s:Shared),Sat K N au ρ B ak os H s->St a s.heap->¬FP H s.heap I->qV H->forL (λv ρ H Q=>bO af w K T n mb (upd ρ i v) H Q X) qV a ρ H Q->
   dU (model af w) A (.forLoop (.Name x px) (.ref I) body [] au) (λr s'=>match r with
    | .ok f=>PF K N au B ak os Q f s'
    | .error e=>oi (model af w) A au (PX K N au B ak os l st X) e s') s:=by
 intro a;have fr:=O.e.ar.frames;have up:∀{e s'},PX K N au B ak os l .seen X e s'->kH (model af w) A au (λe s'=>oi (model af w) A au (PX K N au B ak os l st X) e s') e s':=λz=>
  p_mono (DL fr O.s z) (λ_ s2 M=>p_mono (v8 O.s M) (λ_ _ z=>PX.to L z) λ_ _ z=>PX.to L z) λ_ s2 M=>p_mono (v8 O.s M) (λ_ _ z=>PX.to L z) λ_ _ z=>PX.to L z
 induction a with
 |nil=>
  erw[(ρ H s S u t J h),<-K6 (j.done S.h.rel J u λp k=>?_),ay (j.there u),(oI m Y),aD (S.Qq (s':={s with heap:=p}) G t (λd=>(cX · λo c C _=>by rw[m] at c;injection c with c;subst c;exact Y C)) k S.h.gens S.h.os),(S' _),<-⟨ρ,H,h,S'⟩]
 |cons v a ih=>
  erw[(ρ H s S u t J h),ay (j.there u),(oI m Y),<-K6 (j.item S.h.rel J u λp P vv rv X6 k=>?_)];have U:=k.extBut;erw[aD (S.Qq (s':={s with heap:=p,toks:=P}) G t (λd=>(cX · λo c C _=>by rw[m] at c;injection c with c;subst c;exact Y C)) U S.h.gens S.h.os),(E T1)];have Vw:=S.tB (s':={s with heap:=p,toks:=P}) G t U t;have VC:=rv.mono T1;clear S T1 t Y m k U J u;generalize Qu:({s with heap:=p,toks:=P})=s1 at E Vw VC⊢;have YJ:p=s1.heap:=by refine' c_ Qu ?_;rfl
  rw[YJ] at X6;clear Qu YJ rv;erw[ay (j.there X6),(oI m Y),xQ O.e E.raise hN (λh=>by injection h) VC,(s2 EG)];have y:=E.raised G Vw m;have GW:=EG.h.stays _ _ y;have W:=EG.vV y;have R:=j.keep X6 λo e=>by rw[m] at e;injection e with e;subst e;exact GW
  have b:=Sat.Eh O E E.stays EG;refine p_mono (h2 _ _ _ _ _ _ b.raise h) (λf s3 z=>?_) λe s3 z=>up (z.down b.stays b O);have y:=b.raised G W GW
  induction f using Flow.casesOn with
  |next=>
   erw[dg z,(D F eI g),aD eI,(C q)];have LP:=g.h.stays _ _ y;exact ih D F s3 (Sat.Eh O b b.stays g) (j.keep R λo e=>by rw[GW] at e;injection e with e;subst e;exact LP) (g.vV y) C q
  |brk=>refine dg z ?_;intro D F q g;exact⟨D,F,q,Sat.Eh O b b.stays g⟩
  |ret v=>refine iB z ?_;intro x D F r q g;exact⟨x,D,F,r,q,Sat.Eh O b b.stays g⟩
  |cont=>exact z.elim
theorem Sat.oF(S:Sat K N au ρ B ak os H s)(b:s.heap.get? a=none):Off N au B ak a/\¬FP H s.heap a:=by
 refine⟨⟨λp j e=>?_,λo=>?_,dF S.h.stays b⟩,λf=>?_⟩
 ·subst e;erw[dX (S.h.ak p j),(_ _ _ k),bf k,(sl g)];rw[b] at g;injection g
 ·rcases o with rfl|⟨y,i,m,e⟩
  ·erw[ay S.f.ns,(_ d _),xN d,(o _ _ g _)];rw[b] at g;injection g
  ·erw[Cv (S.f.cell y i m),(l o c _ _ _ _ g _)];rw[e] at c;injection c with c;subst c;rw[b] at g;injection g
 ·erw[ay (S.h.rel.own f),(o g _)];rw[b] at g;injection g
theorem Sat.Hu(S:Sat K N au ρ B ak os H s)(o:Obj):Off N au B ak s.heap.objs.size/\¬FP H (s.heap.push o) s.heap.objs.size/\Sat K N au ρ B ak os H {s with heap:=s.heap.push o}:=by
 erw[aD (S.oF (none_at_size s.heap)),(a b),<-⟨a,λf=>b ((S.h.rel.pV (jt.of_keeps λb c e=>bB o e) (λ_ _=>id) _).mp f),S.push o⟩]
theorem SS.q7(O:tW sc N au A l ak n)(d:st≠.held)(j:N.lookup x=some (.loc,i))(b:∀x,gw e au x=pure x)(h1:SE af w K T n N au A l ak os m (eval e au))(h2:Cc af w K T n N au A l ak os .seen mb (execs body au)):
  SS af w K T n N au A l ak os st (.q7 i m mb) (exec (.For (.Name x px) e body [] pos) au):=λρ B H s Q X S h=>by
 refine NA b (qi d S (λC o=>h1 _ _ _ _ _ _ o h) λv s1 p=>bI λt r q g z=>?_);cases r with
 |ref a=>
  erw[cX (f_ q),(c e u q),ay (eR g e),(y hl _),wpAny_pyIter_list hl,cA (g.Hu {cls:=.type "list_iterator",data:=.fields #[.ref a,.int 0 0]}),(F f k),<-EB O d j (Nk.list O.e.ar.handled _ a c) F h2 c ρ p _ k ⟨0,⟨_,dv _ rfl,rfl,rfl⟩,rfl⟩ f e q]
 |_=>exact q.elim
theorem DT{lo h:Int}(O:tW sc N au A l ak n)(c:st≠.held)(d:N.lookup x=some (.loc,i))(h2:Cc af w K T n N au A l ak os .seen mb (execs body au))(S:Sat K N au ρ B ak os H s)(hr:IsRange s.heap r lo h 1 t u t')(h0:0<=lo)(h1:lo<=1000)(h3:0<=h)(h4:h<=1000)(q:forL (λv ρ H Q=>bO af w K T n mb (upd ρ i v) H Q X) (λ_=>True) (gH lo h) ρ H Q):
  bP (model af w) A (pyIter (.ref r)) (λb g=>dU (model af w) A (.forLoop (.Name x px) b body [] au) (λr s'=>match r with
    | .ok f=>PF K N au B ak os Q f s'
    | .error e=>oi (model af w) A au (PX K N au B ak os l st X) e s') g) Ex s:=by
 have a:=small_one (Tp h0) (Sv h1) (Tp h3) (Sv h4);have E:nH lo h 1=((h-lo).toNat):=by
  rw[rangeSize_one];split
  ·exact(gQ (Int.sub_nonneg_of_le (IF ‹_›))).symm
  ·exact(congrArg rB (Int.toNat_of_nonpos (Int.sub_nonpos_of_le (gq.mp ‹_›)))).symm
 erw[wpAny_pyIter_range hr a,cA (S.Hu {cls:=.type "range_iterator",data:=.fields #[rawInt lo,rawInt (nH lo h 1),rawInt 1]}),(F f j),<-EB O c d (Nk.range O.e.ar.handled _) F h2 (gH lo h) ρ H _ j ⟨lo,(h-lo).toNat,?_,?_⟩ f trivial q]
 ·erw[aj E,<-dv _ rfl]
 ·unfold gH;congr 2;exact aS (ax.mp (jU [(.sub (yp cN dW) cN,fU)] (dW,fU) rt (kQ _))) (ax.mp (jU [(cN,.sub (yp dW fU) dW)] (cN,fU) rt (aF (gQ (oY [(yn 0,cN)] (yn 0,.sub (yp dW cN) dW) rt ir)))))
theorem SS.Yk(o:TabsOk T K)(O:tW sc N au A l ak n)(b:st≠.held)(j:N.lookup x=some (.loc,i))(g:(r !=("__debug__":Str))=true)(hr:(sc.lookup r==some .globalImplicit)=true)(f:T.glob r=some .nk)(c:(starEach [hi] au).any (·.1)=false)(h1:AN af w K T n N au A l ak os [PL] (spliced (backTo cp (starEach [hi] au))))(h2:Cc af w K T n N au A l ak os .seen mb (execs body au)):
  SS af w K T n N au A l ak os st (.forR i none PL mb) (exec (.For (.Name x px) (.Call (.Name r np) [hi] [] cp) body [] pos) au):=λρ B H s Q X S h=>by
 erw[<-NA (λ_=>rfl) (jj c (bc (yH O.e S g hr (o.nk _ f) ?_))),<-qi b S (λD u=>AN.one h1 u h) λy s1 C=>(df · λv x e r q p z=>?_)];subst e;erw[Ka q];clear q;intro k m h0 Qb a J q;subst m;erw[bf r.inv,(t d)];subst d;erw[<-⟨kD,bc (call_range_1 ?_)⟩,<-DT O b j h2 (S:=(p.push _).same rfl) (Fm _ _ _ _ _ _ _) h0 Qb a J q]
theorem SS.V7{lo b:dh}(G:TabsOk T K)(O:tW sc N au A l ak n)(c:st≠.held)(F:N.lookup x=some (.loc,i))(E:(r !=("__debug__":Str))=true)(hr:(sc.lookup r==some .globalImplicit)=true)(D:T.glob r=some .nk)(j:(starEach [lo,b] au).any (·.1)=false)(C:∀x p,lo≠.Starred x p)(z:∀x p,b≠.Starred x p)(h1:SE af w K T n N au A l ak os mlo (eval lo au))(f:SE af w K T n N au A l ak os PL (eval b au))(h2:Cc af w K T n N au A l ak os .seen mb (execs body au)):
  SS af w K T n N au A l ak os st (.forR i (some mlo) PL mb) (exec (.For (.Name x px) (.Call (.Name r np) [lo,b] [] cp) body [] pos) au):=λρ B H s Q X S h=>by
 erw[<-NA (λ_=>rfl) (jj j (bc (yH O.e S E hr (G.nk _ D) ?_))),<-pK (qi c S (λM g=>h1 _ _ _ _ _ _ g h) λV s1 H1=>bI λR u=>bI λa e1 v J Y=>?_) (kN C)];subst e1;refine pK (qi c J (λM g=>f _ _ _ _ _ _ g v) λU s2 H2=>bI λP o=>(Ka · λk e2 h0 Qb d L q I W=>?_)) (kN z);subst e2;erw[yk,bf u.inv,(t y)];subst y;erw[bf o.inv,(t2 m)];subst m;erw[<-⟨kD,bc (call_range_2 ?_)⟩,<-DT O c F h2 (S:=(I.push _).same rfl) (Fm _ _ _ _ _ _ _) h0 Qb d L q]
noncomputable def Ll:List Value:=[.type "Exception",.type "BaseException",.type "object"]
structure zM(T:lS)(K:fg):Prop where
 exc:∀x C,T.glob x=some (.exc C)->nsIn K mainGlobals x=some (some (.ref C))/\excIn K C Ll "Exception.__new__"=true
theorem Sat.fun(S:Sat K N au ρ B ak os H s)(O:cU sc N au A l ak n):s.heap.FunFrames B l:=by
 have:∀b,(∀e∈b,e∈l)->s.heap.FunFrames B b:=λb=>by
  induction b with
  |nil=>intro _;trivial
  |cons e r m=>
   erw[(h),aD (O.frs e (h e j4)),(a C),ay C,(L i c),<-⟨a,?_,m λx u=>h x (fR u)⟩];rcases c with rfl|⟨p,w,rfl⟩
   ·erw[ay S.f.ns,(_ t _),iB t,(o y z g d _),<-⟨_,o,i,S.f.nO,g,λv q=>by rw[d] at q;injection q⟩]
   ·erw[dX (S.h.ak p w),(D _ k j),gI k,(y z d),bf j,(sl g),<-⟨_,_,i,D,g,λv q=>by rw[show({p.2 with slots:=sl}:Obj).data=p.2.data from rfl,d] at q;injection q⟩]
 exact this l λ_ h=>h
theorem SS.raise(L:zM T K)(O:tW sc N au A l ak n)(F:(x !=("__debug__":Str))=true)(y:(sc.lookup x==some .globalImplicit)=true)(D:T.glob x=some (.exc C))(m:(starEach [e] au).any (·.1)=false)(h1:AN af w K T n N au A l ak os [me] (spliced (backTo Vq (starEach [e] au)))):
  SS af w K T n N au A l ak os .any (.raise C me) (exec (.Raise (some (.Call (.Name x np) [e] [] Vq)) none pos) au):=λρ B H s Q X S h=>by
 erw[aD (L.exc _ _ D),(nm I)];rw[arm_exec_Raise];refine az (bz ?_);show bN _ A (raiseStmt au (some (eval (.Call (.Name x np) [e] [] Vq) au>>= λv=>standAt pos>>= λ_=>pure v)) none) _ _ s;have split:∀t:Sem Value,raiseStmt au (some t) none=(t>>= λv=>raiseStmt au (some (pure v)) none):=λt=>rfl;rw[split];erw[<-az (az (jj m (bc (yH O.e S F y (.inl nm) ?_)))),<-qi (by intro h;injection h) S (λB' P=>AN.one h1 P h) λV s1 U=>(df · λv x e r q a T1=>?_)];subst e;erw[vz a.h.st.top,(p c mg mb M),tm (((own_of_in a.h.st.Br M nm I).keeps a.h.stays).obj),(bm N' u Y bs O0 o),tm o,(W sub ab J dd k0 k),C0 k,(k1 k2 k3 k5 mN g G d j)];have R:Ll.contains (.type "BaseException")=true:=dc rfl;have f:Ll.contains (.type "Exception")=true:=dc rfl;erw[<-⟨⟨.machine,.inr rfl,λQ h=>wpAny_keeperOf_exc g h⟩,?_⟩,<-bc (wpAny_call_exc_subU oZ f oZ j g G d (λh' i b=>?_) ?_)]
 ·erw[<-az (bz (bh (bc ?_))),cX b.there,(t E z ht),<-wpAny_raiseStmt_made_sub (j.hasType R) O.e.ar.handled (wpAny_pure ⟨i,t,rfl,b.keeps _ _ g,E,?_⟩),<-⟨i,C,U,ρ,rfl,q.2,a.grow b.keeps a.h.gens a.h.os,.inr (.inr (rS.of b a.h.stays (a.fun O.e)))⟩]
 ·erw[aj sizeLine_eq];show 1<=16777216;decide
structure BY(T:lS):Prop where
 sub:∀C' C,T.sub C' C=true->C'=C
theorem Ql(q:bN M A (execs body au) Q (λe s1=>bN M A (noteFrame e au) (λ_ s2=>bN M A (setFlight e none) (λ_ s3=>bN M A (handleBy e au [h]) Q Ex s3) Ex s2) Ex s1) s):bN M A (exec (.Try body [h] [] [] pos) au) Q Ex s:=by
 rw[arm_exec_Try];refine az (bz ?_);have e:tryStmt false (execs body au) [h] (execs [] au) [] au=(do
  match<-(execs body au).attempt with
  | .ok .next=>execs [] au
  | .ok f=>pure f
  | .error e=>
   noteFrame e au
   if[h].isEmpty then throw e
   setFlight e none
   if false&&[h].any (fun| .ExceptHandler none .. =>true|_=>false) then yT "internal:except-star-without-type"
   if false then runOwn (.starHandlers e e (<-newList []) [h] au) au (some e) else handleBy e au [h]):=rfl
 erw[aj e,<-az (By (p_mono q (λf s1 h1=>?_) λx s1 h1=>?_))]
 ·induction f using Flow.casesOn with
  |next=>exact nU h1
  |_=>exact bh h1
 ·dsimp only;erw[<-az (p_mono h1 (λ_ s2 h2=>?_) λ_ _ z=>z),<-az (p_mono h2 (λ_ s3 h3=>h3) λ_ _ z=>z)]
theorem Ld(O:cU sc N au A l ak n)(S:Sat K N au ρ B ak os H s)(f:(x !=("__debug__":Str))=true)(d:(sc.lookup x==some .globalImplicit)=true)(h:nsIn K mainGlobals x=some (some v))(q:Q v s):
  bP M A' (eval (.Name x pos) au) Q Ex s:=by
 erw[vz S.h.st.top,(p a m i T)];have b:au.kindOf x=some .globalImplicit:=by unfold o7;refine' aj O.names ?_;exact beq_iff_eq.mp d
 have c:(x==("__debug__"))=false:=by simpa[bne] using f
 have e:s.heap.Ns au.globals m:=by refine' aj O.glob ?_;exact T.g.keeps S.h.stays
 exact ot O.kind b (E4 e (mg_of S.h.st.Br T.g h) q) c
theorem SS.kA(XO:zM T K)(SO:BY T)(O:tW sc N au A l ak n)(hd:(x !=("__debug__":Str))=true)(R:(sc.lookup x==some .globalImplicit)=true)(Y:T.glob x=some (.exc C))(hc:Y8 v=true)(h1:Cc af w K T n N au A l ak os .seen mb (execs body au)):
  SS af w K T n N au A l ak os st (.kA mb C v) (exec (.Try body [.ExceptHandler (some (.Name x np)) none [.Return (some (.Constant (EF v) ck cp)) rp] hp] [] [] pos) au):=λρ B H s Q X S h=>by
 erw[aD (XO.exc _ _ Y),(nm ex),<-Ql (p_mono (h1 _ _ _ _ _ _ S h) (λ_ _ z=>z) λe s1=>(iR · λt C' u i e1 U D F=>?_)),aD U,(Pd q)];subst e1
 obtain rfl:=SO.sub _ _ Pd
 have fr:=O.e.ar.frames;erw[bf O.s.first,(o hl)];have a:∀s2:Shared,Sat K N au i B ak os u s2->Way B l t (.ref C') (rawInt au.locals) s2.heap->bP (model af w) A (setFlight (.ref t) none) (λ_ s3=>bN (model af w) A (handleBy (.ref t) au [.ExceptHandler (some (.Name x np)) none [.Return (some (.Constant (EF v) ck cp)) rp] hp]) (PF K N au B ak os Q) (PX K N au B ak os l st X) s3) (PX K N au B ak os l st X) s2:=λs2 S2 F2=>by
  refine kW none F2 λh3 y M=>bc ?_;have d:=S2.ups M y.1;erw[<-wpAny_handleBy_cons (codeAny_handlers_test (Ld O.e d hd R nm ?_)) (by intro q;injection q),vz d.h.st.top,(p m mg I TR),tm (((own_of_in d.h.st.Br TR nm ex).keeps d.h.stays).obj),(bm N' G qn bs O0 eI),tm eI,(sn sub ab col dd k0 P),C0 P,(k1 k2 L k5 mN hC hN W TL),ay y.there,(ob Ds Ur),<-wpAny_excMatches_sub_self hC Ds Ur (TL.hasType (dc rfl)) (codeAny_handlers_suite ?_),kW none y,(h4 F4 J)];have j:=d.ups J F4.1;rw[execs_cons,exec_Return_some];refine wpAny_bind (wpAny_bind (wpAny_standAt (wpAny_bind ?_)));have f:∀c g,c9 g.heap c v->Sat K N au i B ak os u g->PF K N au B ak os Q (.ret c) g:=λc g r S5=>⟨v,i,u,r,q i,S5⟩
  induction v using V.casesOn with
  |none=>exact wpAny_Constant_none (wpAny_pure (wpAny_pure (f _ _ .none j)))
  |bool b=>exact wpAny_Constant_bool (wpAny_pure (wpAny_pure (f _ _ (.bool b) j)))
  |int b=>exact wpAny_Constant_int (wpAny_pure (wpAny_pure (f _ _ (.int b _) (j.tok _))))
  |bytes b=>exact Constant_bytes (wpAny_pure (wpAny_pure (f _ _ (by simpa using c9.bytes b.toArray _) (j.tok _))))
  |_=>exact Bool.noConfusion hc
 rcases F with F|F
 ·subst hl;exact bc (vT fr O.s.own F λh' E k=>bc (a _ (D.ups k E.1) E))
 ·exact bc (tA O.s.own F (bc (a _ D F)))
theorem Bj:entryFor table "proto.unchain"=some Builtin.«proto.unchain»:=by first|exact nA (by kernel_rfl)|exact nB (by kernel_rfl)
section
variable{nm q:Str}{C N:Addr}{bs bm:List Value}{O0:Bool}{sn:List Str}{sub:List Value}{ab:Bool}{col:Option Bool}{dd:Option Addr}{k0 k1 k2 k3 k5:Option Value}{newId:String}
theorem zH(l:bm.contains (.type "BaseException")=true)(h:bP M A x (λv b=>∃e t,v=.ref e/\b.heap.get? C=some (excClassObj nm q C N bs bm O0 sn sub ab col dd k0 k1 k2 k3 k5 newId)/\
   b.heap.get? e=some {cls:=.ref C,data:=.fields #[.ref t,.none,.none,.none,.bool false,.none]}/\bP M A (raiseNew (.ref e):Sem Flow) Q Ex b) Ex s):
  bP M A (raiseStmt au (some x) none) Q Ex s:=by
 have a:(iq C::bm).contains (.type "BaseException")=true:=by refine' aj List.contains_cons ?_;refine' aj l ?_;rw[Bool.or_true]
 erw[<-wpAny_bind (wpAny_mono h (λv b k=>?_) λ_ _ x=>x),fX k,(e t j c f i)];subst j;rcases b with⟨hp,g,d,tk,os⟩
 repeat (first|with_reducible refine wpAny_loadPart_at f ?_|with_reducible refine wpAny_loadPart_at c ?_|(with_reducible refine wpAny_isSubtype_exc c ?_;refine' aj a ?_)|wp_step)
 exact i
end
theorem CZ(a:s.heap.get? h=some o)(b:o.data=.fields vs)(h2:vs[2]?=some .none)(q:R (.ok (.ret .none)) s):
  codeAny (model af w) A (.builtin "proto.unchain" ⟨[.ref e,.ref h,sl,.bool false],[]⟩) R s:=by
 erw[Fj Bj,<-wpAny_bind (wpAny_field a b h2 ?_),<-wpAny_pure q]
theorem xU(d:A.handled=some (.ref h))(n:h≠e)(c:s.heap.get? h=some o)(g:o.data=.fields vs)(h2:vs[2]?=some .none)(f:s.heap.get? e=some oe)(a:oe.data=.fields ve)(b:2<ve.size)(q:Ex (.ref e) {s with heap:=s.heap.update e (qW (·.setIfInBounds 2 (.ref h)))}):
  bP (model af w) A (raiseNew (.ref e):Sem Flow) Q Ex s:=by
 erw[<-wpAny_bind (wpAny_handled ?_),aj d];dsimp only;erw[aj (if_pos (show(iq h !=iq e)=true from by simpa using n)),<-wpAny_bind (wpAny_holding (wpAny_runValue (CZ c g h2 ?_))),<-wpAny_bind (wpAny_setField f a b (wpAny_throw q))]
theorem GS(h:dU M (A.mark (some e)) (.handlers e [.ExceptHandler (some t) none [] pos] au) (λr b=>match r with
   | .ok .brk=>dU M (A.mark (some e)) (.handlers e [.ExceptHandler none none body pos] au) (λr a=>match r with
     | .ok f=>Q f a
     | .error x=>oi M A au Ex x a) b
   | .ok _=>False
   | .error x=>oi M A au Ex x b) s)(T:e≠byPass):
  bN M A (handleBy e au [.ExceptHandler (some t) none body pos]) Q Ex s:=by
 have V:(some e)≠some byPass:=λx=>T (bV x);refine az (bK (wK (kP h (λr b c=>?_)) V))
 induction r using Except.casesOn with
 |error x=>exact c
 |ok f=>
  induction f using Flow.casesOn with
  |brk=>
   erw[<-az (bh ?_),<-az (bK (wK (kP c (λr a d=>?_)) V))]
   induction r using Except.casesOn with
   |error x=>exact d
   |ok f=>exact bh d
  |_=>exact c.elim
theorem Jk(h:∀a R:Dx->Shared->Prop,(∀b,dU M (A.mark (some e)) (.handlers e [.ExceptHandler none none body pos] au) R b->a (.ok .brk) b)->(∀x b,oi M A au Ex x b->a (.error x) b)->(∀f c,Q f c->R (.ok f) c)->(∀x c,oi M A au Ex x c->R (.error x) c)->
   dU M (A.mark (some e)) (.handlers e [.ExceptHandler (some t) none [] pos] au) a s)(T:e≠byPass):
  bN M A (handleBy e au [.ExceptHandler (some t) none body pos]) Q Ex s:=
 GS (h _ _ (λ_ h=>h) (λ_ _ h=>h) (λ_ _ h=>h) λ_ _ h=>h) T
section
variable{R:Dx->Shared->Prop}
theorem xT(h:bN (model af w) A (eval t au) (λc d=>bN (model af w) A (excMatches e c) (λb a=>R (.ok (if b then .brk else .next)) a) (kH (model af w) A au λx a=>R (.error x) a) d)
   (kH (model af w) A au λx d=>R (.error x) d) s):
  dU (model af w) A (.handlers e [.ExceptHandler (some t) none [] pos] au) R s:=by
 erw[gJ rfl,<-az (tG ?_),<-az (bz (az (p_mono h (λc d g=>az (bz (az (p_mono g (λb a f=>bh (bh ?_)) λ_ _ x=>x)))) λ_ _ x=>x))),<-f]
theorem wQ(h:bN (model af w) A (setFlight e none) (λ_ b=>bN (model af w) A (execs (abo::body) au) (λf c=>R (.ok f) c) (kH (model af w) A au λx c=>R (.error x) c) b) (kH (model af w) A au λx b=>R (.error x) b) s):
  dU (model af w) A (.handlers e [.ExceptHandler none none (abo::body) pos] au) R s:=by
 erw[gJ rfl,<-az (tG ?_),<-az (bz (az (p_mono h (λ_ b d=>p_mono d (λf c a=>bh a) λ_ _ x=>x) λ_ _ x=>x)))]
end
theorem SS.iw{y:Str}{np yp hp pos V F E:Pos}(XO:zM T K)(SO:BY T)(O:tW sc N au A l ak n)(hs:st≠.held)(R:C≠z_)(hd:(x !=("__debug__":Str))=true)(hx:(sc.lookup x==some .globalImplicit)=true)(hg:T.glob x=some (.exc C))(M:(y !=("__debug__":Str))=true)(J:(sc.lookup y==some .globalImplicit)=true)(Y_:T.glob y=some (.exc z_))(f:msg.length<=1000)(h1:Cc af w K T n N au A l ak os .seen mb (execs body au)):
  SS af w K T n N au A l ak os st (.iw mb C z_) (exec (.Try body [.ExceptHandler (some (.Name x np)) none [.Raise (some (.Call (.Name y yp) [.Constant (.str msg) ck E] [] V)) none F] hp] [] [] pos) au):=λρ B H s Q X S h=>by
 erw[aD (XO.exc _ _ hg),(nm ex),aD (XO.exc _ _ Y_),(g QP),<-Ql (p_mono (h1 _ _ _ _ _ _ S h) (λ_ _ z=>z) λe s1=>(iR · λc C' H' ew e1 hq S1 Fw=>?_)),aD hq,(Pd q)];subst e1
 obtain rfl:=SO.sub _ _ Pd
 have fr:=O.e.ar.frames;erw[bf O.s.first,(G hl)];have r:∀s2:Shared,Sat K N au ew B ak os H' s2->Way B l c (.ref C') (rawInt au.locals) s2.heap->bN (model af w) A (setFlight (.ref c) none) (λ_ s3=>bN (model af w) A (handleBy (.ref c) au [.ExceptHandler (some (.Name x np)) none [.Raise (some (.Call (.Name y yp) [.Constant (.str msg) ck E] [] V)) none F] hp]) (PF K N au B ak os Q) (PX K N au B ak os l st X) s3) (PX K N au B ak os l st X) s2:=λs2 S2 F2=>by
  refine bc (kW none F2 λh3 F3 k3=>?_);have m:=S2.ups k3 F3.1;erw[<-Jk (λR1 R2 b1 b2 b3 b4=>xT (bc (Ld O.e m hd hx nm ?_))) (by intro q;injection q),vz m.h.st.top,(p I mg mb' TR),tm (((own_of_in m.h.st.Br TR nm ex).keeps m.h.stays).obj),(bm N' nm' qn bs O0 iL),tm iL,(sn sub ab col dd k0 kZ),C0 kZ,(k1 k2 k3' k5 mN hC hN hni TL),ay F3.there,(ob Ds Ur),<-bc (wpAny_excMatches_sub_self hC Ds Ur (TL.hasType (dc rfl)) (b1 _ (wQ ?_))),<-bc (kW none F3 λh4 F4 k4=>?_)];have d:=m.ups k4 F4.1;erw[wx,<-az (bz ?_)];show bN _ _ (raiseStmt au (some (eval (.Call (.Name y yp) [.Constant (.str msg) ck E] [] V) au>>= λv=>standAt F>>= λ_=>pure v)) none) _ _ _;have split:∀t:Sem Value,raiseStmt au (some t) none=(t>>= λv=>raiseStmt au (some (pure v)) none):=λt=>rfl;rw[split];erw[<-az (az (jj rfl (bc (Ld O.e d M J g ?_)))),<-bc (wpAny_items_cons (wpAny_Constant_str (wpAny_items_nil ?_))),tm (((own_of_in d.h.st.Br TR g QP).keeps d.h.stays).obj),(bm2 N2 nm3 qn2 bs2 ab0 pF),tm pF,(sn2 ab8 ab2 ab7 dd2 j0 tU),C0 tU,(j1 j2 j3 j5 mN2 Y P W j)];have L:Ll.contains (.type "Exception")=true:=dc rfl;erw[<-⟨⟨.machine,.inr rfl,λQ h=>wpAny_keeperOf_exc Y h⟩,?_⟩,<-bc (wpAny_call_exc_subU oZ L oZ j Y P W (λh5 e2 f=>?_) (by erw[aj sizeLine_eq];show 1<=16777216;decide)),<-az (bz (bh (bc ?_))),cX (id f.there),(t i htn ht),PU F4.tr,(oe vs Tb oT ts U g2 g3 g4 g5 g6 g7 g8 g9 g10),ay g5,(cx c1 c2)]
  obtain rfl:=c2 (by intro q;injection q with q;exact R q)
  have ne:c≠e2:=λq=>by subst q;rw[f.new] at U;injection U
  refine zH (j.hasType (dc rfl)) (wpAny_pure ⟨e2,t,rfl,f.keeps _ _ Y,i,?_⟩);have S5:=d.grow (s':={s2 with heap:=h5,toks:=s2.toks+1}) f.keeps d.h.gens d.h.os;erw[xU (show(A.mark (some (.ref c))).handled=some (.ref c) from rfl) ne (f.keeps _ _ U) g3 c1 i rfl (by simp)];have M5:=rS.of f d.h.stays (d.fun O.e);have fresh:=M5.new;have upd:∀b o,h5.get? b=some o->b≠e2->(h5.update e2 (qW (·.setIfInBounds 2 (.ref c)))).get? b=some o:=λb o a si=>(hU _ _ (aJ si)).trans a;have D:h5.UpToSlots (h5.update e2 (qW (·.setIfInBounds 2 (.ref c)))):=λb o a u=>⟨o.slots,upd b o a λq=>by replace q:=q.symm;subst q;rw[i] at a;injection a with a;subst a;exact u _ rfl⟩;have M6:rS B l e2 (.ref z_) (h5.update e2 (qW (·.setIfInBounds 2 (.ref c)))):=by
   refine⟨λb o a=>upd b o (M5.stays b o a) (λq=>by rw[q,fresh] at a;injection a),fresh,M5.Pf.of_keeps λb o a u=>?_,?_⟩
   ·exact⟨o,upd b o a (λq=>by replace q:=q.symm;subst q;rw[i] at a;injection a with a;subst a;exact u _ rfl),rfl⟩
   ·exact⟨_,_,e_ _ i rfl,rfl,rfl,rfl,.ref c,rfl,λq=>absurd rfl q⟩
  have S6:=S5.ups D M6.stays;subst hl;exact bc (BZ fr O.s.own M6 λh7 F7 k7=>b4 _ _ (p_mono (v8 O.s ⟨e2,z_,H',ew,rfl,q,S6.ups k7 F7.1,F7⟩) (λ_ _ z=>PX.to hs z) λ_ _ z=>PX.to hs z))
 rcases Fw with Fw|Fw
 ·subst hl;exact bc (vT fr O.s.own Fw λh' F' k=>r _ (S1.ups k F'.1) F')
 ·exact bc (tA O.s.own Fw (r _ S1 Fw))
noncomputable def K0(top:Bool):N3:=if top then .any else .seen
theorem NN(top:Bool):K0 top≠.held:=by induction top using tQ<;>intro h<;>cases h
theorem SS.bad:SS af w K T n N au A l ak os st .bad t:=λρ B H s Q X S h=>by
 exact h.elim
def V0(af:eA)(w:bY)(K:fg)(T:lS)(n:Nat)(N:dH)(sc:List (Str×dz))(au:mq)(A:Around)(l:List mq)(ak:List (Addr×Obj))(os:bL)(k:Nat):Prop:=
 ∀m:Mine.S,sizeOf m<k->∀top y,okS T z_ N sc top m y=true->SS af w K T n N au A l ak os (K0 top) m (exec (toS m y) au)
theorem uh(I:V0 af w K T n N sc au A l ak os k)(top:Bool):∀(ms:List Mine.S)(xs:List jz),sizeOf ms<k->yZ T z_ N sc top ms xs=true->Cc af w K T n N au A l ak os (K0 top) ms (execs (yW ms xs) au)
 |[],_,_,_=>Cc.nil
 |m::ms,xs,hz,h=>
  have h:=ag.mp h;have a:=hz
  Cc.cons (I m (gF [(zs (zp (zp (zn 1) av) aW),bT)] (zs av,bT) rt a) top _ h.1) (uh I top ms xs.tail (GA a) h.2)
theorem X8(c:TabsOk T K)(X:zM T K)(SO:BY T)(O:tW sc N au A l ak n):∀k,V0 af w K T n N sc au A l ak os k
 |0=>λm d=>absurd d (uf _)
 |k+1=>λm d top y h=>by
  have I:=X8 c X SO O k;have f:=NN top
  induction m using S.casesOn with
  |expr m=>
   have h:=ag.mp h;exact SS.expr O.e f h.1 (tE _ _) (gj c O.e h.2)
  |bq i m=>
   have h:=ag.mp h;erw[ay (DZ h.1),(B s r),<-SS.bq c O.e f s r h.2]
  |cD o F m=>
   have h:=ag.mp h;have h2:=ag.mp h.2;exact SS.cD f (tE _ _) (gj c O.e h2.2) (gj c O.e h2.1)
  |hK o i m=>
   have h:=ag.mp h;have h2:=ag.mp h.2;have h3:=ag.mp h2.2;exact SS.hK f (tE _ _) (gj c O.e h3.2) (gj c O.e h2.1) (gj c O.e h3.1)
  |zB J m=>
   have h:=ag.mp h;have h2:=ag.mp h.2;exact SS.zB O.e f h.1 h2.1 (gj c O.e h2.2)
  |pj i z m=>
   have h:=ag.mp h;have h2:=ag.mp h.2;erw[ay (DZ h2.1),(B s r),<-SS.pj O.e f h.1 s r (gj c O.e h2.2)]
  |Dk o F z m=>
   have h:=ag.mp h;have h2:=ag.mp h.2;have h3:=ag.mp h2.2;exact SS.Dk f h.1 (gj c O.e h3.1) (gj c O.e h3.2)
  |dm t a b=>
   have h:=ag.mp h;have h2:=ag.mp h.2;rw[S.dm.sizeOf_spec] at d;exact SS.if f (FH c O.e h.1) (uh I top a _ (Jc d) h2.1) (uh I top b _ (Mp d) h2.2)
  |oK t b=>
   have h:=ag.mp h;rw[S.oK.sizeOf_spec] at d;exact SS.while O f (FH c O.e h.1) (uh I false b _ (Xr d) h.2)
  |q7 i e b=>
   have h:=ag.mp h;have h2:=ag.mp h.2;rw[S.q7.sizeOf_spec] at d;exact SS.q7 O f (wb h.1) wZ (gj c O.e h2.1) (uh I false b _ (Mp d) h2.2)
  |forR i lo x b=>
   have h:=ag.mp h;have h2:=ag.mp h.2;have h3:=ag.mp h2.2;erw[cA (iY h2.1),(p j g)];rw[S.forR.sizeOf_spec] at d
   induction lo using tT with
   |none=>exact SS.Yk c O f (wb h.1) p j (wN g) (fT (ms:=[x])) (CS c O.e (wk h3.1)) (uh I false b _ (Vn d) h3.2)
   |some lo=>
    have h4:=ag.mp h3.1;exact SS.V7 c O f (wb h.1) p j (wN g) (fT (ms:=[lo,x])) noStar noStar (gj c O.e h4.1) (gj c O.e h4.2) (uh I false b _ (Vn d) h3.2)
  |ret m=>
   induction m using tT with
   |none=>exact SS.aaw
   |some m=>exact SS.ret f (gj c O.e h)
  |brk=>exact SS.brk
  |pass=>exact SS.pass
  |raise C m=>
   have h:=ag.mp h;have h2:=ag.mp h.2;erw[cA (iY h2.1),(p j g)];have G:=h.1;subst G;exact SS.raise X O p j (vJ g) (fT (ms:=[m])) (CS c O.e (wk h2.2))
  |kA b C v=>
   have h:=ag.mp h;have h2:=ag.mp h.2;erw[cA (iY h.1),(j g u)];rw[S.kA.sizeOf_spec] at d;exact SS.kA X SO O j g (vJ u) h2.1 (uh I false b _ (F8 d) h2.2)
  |iw b C L=>
   have h:=ag.mp h;have h1:=ag.mp h.1;have h2:=ag.mp h.2;have h3:=ag.mp h2.2;have h4:=ag.mp h3.2;have H:=beq_iff_eq.mp h1.2;subst H;erw[cA (iY h2.1),(j g u),cA (iY h3.1),(E D q)];rw[S.iw.sizeOf_spec] at d;exact SS.iw X SO O f (by simpa using h1.1) j g (vJ u) E D (vJ q) (of_decide_eq_true h4.1) (uh I false b _ (F8 d) h4.2)
  |bad=>exact SS.bad
theorem P6(b:TabsOk T K)(X:zM T K)(SO:BY T)(O:tW sc N au A l ak n)(a:yW ms es=es)(h:yZ T z_ N sc true ms es=true):Cc af w K T n N au A l ak os .any ms (execs es au):=by
 have:=uh (X8 (af:=af) (w:=w) (os:=os) b X SO O (sizeOf ms+1)) true ms es (gS _) h;rw[a] at this;exact this
theorem GI:∀{m:Str->Option Value},x∉binds.map (·.1)->bindL kd binds m x=m x:=by
 induction binds with
 |nil=>intros;rfl
 |cons b r i=>
  erw[(m h),aj (i (λq=>h (JL _ q)))];have:x≠b.1:=λq=>h (q▸x_)
  split
  ·exact if_neg this
  ·rfl
theorem IL:∀{m:Str->Option Value},(binds.map (·.1)).Nodup->(x,v)∈binds->kd x=some .local->bindL kd binds m x=some v:=by
 induction binds with
 |nil=>exact λ_ h=>nomatch h
 |cons b r i=>
  intro m c hm a;unfold bindL;erw[aD (fZ.mp c),(h1 h2)];rcases bE.mp hm with e|hm
  ·subst e;rewrite[GI h1,if_pos a,if_pos rfl];rfl
  ·exact i h2 hm a
theorem FU:∀{m:Str->Option Value},x∉binds.map (·.1)->bindC kd binds m x=m x:=by
 induction binds with
 |nil=>intros;rfl
 |cons b r i=>
  erw[(m h),aj (i (λq=>h (JL _ q)))];have:x≠b.1:=λq=>h (q▸x_)
  split
  ·rfl
  ·exact if_neg this
theorem I0:∀{m:Str->Option Value},(binds.map (·.1)).Nodup->(x,v)∈binds->kd x=some .cell->bindC kd binds m x=some v:=by
 induction binds with
 |nil=>exact λ_ h=>nomatch h
 |cons b r i=>
  intro m c hm a;unfold bindC;erw[aD (fZ.mp c),(h1 h2)];rcases bE.mp hm with e|hm
  ·subst e;rewrite[FU h1,if_neg (by erw[aj a,(q)];cases q),if_pos rfl];rfl
  ·exact i h2 hm a
structure Wm(K:fg)(f:Addr)(body:List jz)(scope:Scope)(xs:List Str)(ext:List Value):Prop where
 ex:∃o d,K.lookup f=some o/\o.data=.func d/\d.body=.stmts body/\d.scope=scope/\d.globals=mainGlobals/\d.closure=[]/\d.builtins=nt/\codeIn K d.code d.qualname=true/\
  ∀(s:Shared)(aQ:List Value),K.In s.heap->aQ.length+ext.length=xs.length->BindsTo s d ⟨aQ,[]⟩ (xs.zip (aQ++ext))
noncomputable def T6(scope:Scope)(xs:List Str):Bool:=!scope.isCoroutine&&!scope.isGenerator&&scope.kind== .function&&(xs.all λx=>scope.names.lookup x==some .local||scope.names.lookup x==some .cell) &&decide xs.Nodup
noncomputable def argsOk(N:dH)(xs:List Str):Bool:=N.all λp=>(decide (p.2.2<xs.length) ==false||xs[p.2.2]?==some p.1) &&(match p.2.1 with| .ro=>false|_=>true)
noncomputable def sr(vs:List V):Loc:=λi=>vs[i]?
theorem Pz(h:bN (model af w) (A.deeper au) (execs body au) (λf s'=>R (.ok (.ret (match f with| .ret v=>v|_=>.none))) s')
   (λe s'=>bN (model af w) (A.deeper au) (leaving au e) (λ_ C=>R (.error e) C) (λb C=>R (.error b) C) s') s):
  dU (model af w) A (.func body au) R s:=by
 erw[gJ rfl,<-az (H_ (az (pg (p_mono h (λf s' a=>?_) λ_ _ a=>a))))]
 induction f using Flow.casesOn<;>exact bh a
theorem xK(X:A.depth<recursionLimit)(r:s.heap.get? a=some o)(f:o.data=.func fd)(p:fd.scope=scope)(F:fd.globals=mainGlobals)(J:fd.closure=[])(i:fd.builtins=nt)(M:scope.isCoroutine=false)(S:scope.isGenerator=false)(Y:fd.body=.stmts body)(g:s.heap.CodeRec fd.code fd.qualname)(h:bP (model af w) A.in1 (bindArgs fd args) (λb n=>
   bP (model af w) A.in1 (newFunctionEnv scope mainGlobals [] b (fd.qualname++ ".<locals>.") (some a) fd.code none nt)
    (λau k=>k.heap.NoLimit/\dU (model af w) A (.func body au) R k) (λe s'=>R (.error e) s') n) (λe s'=>R (.error e) s') s):
  dU (model af w) A (.call (.ref a) args) R s:=by
 erw[gJ rfl];show bN _ A.in1 (callAny (.ref a) args) _ _ s;erw[<-bc (wpAny_bind (wpAny_load r ?_)),iR g,(c x v u l Q d q),aj f];show bP _ _ (callFunction a fd args) _ _ _;unfold callFunction;erw[aj p,aj F,aj J,aj i,aj M,aj S,aj Y,aj l];rw[l] at h;refine wpAny_bind (wpAny_field Q d q (wpAny_bind (wpAny_pure ?_)));exact wpAny_bind (wpAny_mono h (λb n t=>wpAny_bind (wpAny_mono t (λau k m=>wpAny_bind (wpAny_enterFrame m.1 X
  (wpAny_pure (Hd rfl m.2)))) λ_ _ j=>j)) λ_ _ j=>j)
theorem Ia:∀{xs:List Str} {a:List Value} {i:Nat} {x:Str} {v:Value},xs[i]?=some x->a[i]?=some v->(x,v)∈xs.zip a
 |_::_,_::_,0,_,_,h1,h2=>by simp at h1 h2;subst h1;subst h2;exact j4
 |_::_,_::_,i+1,_,_,h1,h2=>fR (Ia (by simpa using h1) (by simpa using h2))
 |[],_,_,_,_,h1,_=>by simp at h1
 |_::_,[],_,_,_,_,h2=>by simp at h2
theorem Di:∀{xs:List Str} {a:List Value},a.length=xs.length->(xs.zip a).map (·.1)=xs
 |[],_,_=>rfl
 |x::xs,v::a,h=>by simp at h;simp[Di h]
 |x::xs,[],h=>by simp at h
theorem Bg(TO:TabsOk T K)(XO:zM T K)(SO:BY T)(FI:Wm K f body scope xs ext)(hx:∀h,bU h ext xext)(t:T6 scope xs=true)(hN:Ej N scope.names=true)(hA:argsOk N xs=true)(hl:args.length+xext.length=xs.length)(Y:yW ms body=body)(ck:yZ T z_ N scope.names true ms body=true)(h:bO af w K T n ms (sr (args++xext)) H (λfl _ D=>match fl with| .ret v=>Q v D| .next=>Q .none D| .brk=>False) X):aY af w K (n+1) f args H Q X:=by
 erw[(B ak os l A s aQ ar fi S rv),UT FI.ex,(o d hf Od hbo aav Fb JW hbl hcd hb)];unfold T6 at t;erw[aD (ag.mp t),(t UI),aD (ag.mp t),(t hkk),aD (ag.mp t),(t XW),aD (ag.mp t),(Mr Sf)];have UI:=of_decide_eq_true UI;have XW:scope.kind=.function:=by simpa using XW
 have M:=S.st.Br.keeps S.stays;erw[vz S.st.top,(p loose mg mb TR)];have TR':=TR.keeps S.stays;have d4:aQ.length+ext.length=xs.length:=by refine' aj rv.length ?_;refine' aj ((hx B).length) ?_;exact hl
 have u:(aQ++ext).length=xs.length:=by refine' aj ah ?_;exact d4
 have rva:=(rv.mono (dM.of_stays S.stays)).append (hx _);have X_:=ar.depth;have aap:=ar.units;erw[<-xK (show A.depth<1000 by exact fe [(zp av aW,zn 900)] (zs av,zn 1000) rt X_) (M _ _ hf) Od aav Fb JW hbl (by simpa using Mr) (by simpa using Sf) hbo (codeRec_of M hcd) (hb s aQ M d4 _ _ _ _ ?_),<-wpAny_newFunctionEnv_cells XW (λx hx=>?_) λau P U x=>?_]
 ·have:x.1∈xs:=by refine' c_ (Di u) ?_;exact List.mem_map_of_mem hx
  rcases nq.mp (cJ.mp hkk _ this) with q|q
  ·exact .inl (by simpa using q)
  ·have q':scope.names.lookup x.1=some .cell:=by simpa using q
   exact .inr ⟨q',cellsFrom_some _ _ _ (.inl q')⟩
 have J9:=x.toInCall.keep;erw[dg x.done,(cu tk V _)];have eN:au.scope=scope:=by refine' aj P ?_;rfl
 have eL:au.locals=s.heap.objs.size:=by refine' aj P ?_;rfl
 have R:au.frame=some au.locals:=by refine' aj P ?_;rfl
 have eC:au.cells=cellsFrom (s.heap.objs.size+1) scope.names []:=by refine' aj P ?_;rfl
 have eG:au.globals=mainGlobals:=by refine' aj P ?_;rfl
 have eB:au.builtins=nt:=by refine' aj P ?_;rfl
 have hg:U.gens=#[]:=by refine' aj V ?_;exact S.gens
 have E_:U.os=os:=by refine' aj V ?_;exact S.os
 have SH:=S.grow J9 hg E_;have JU:=PQ.of hN;have fpo:∀a,s.heap.objs.size<=a->¬FP H U.heap a:=λa ha q=>by
  have q':=(S.rel.pV (jt.of_keeps J9) (λ_ _=>id) a).mp q;erw[ay (S.rel.own q'),(o Y _),<-iD _ (aZ (eO Y) ha)]
 have Yn:∀a,s.heap.objs.size<=a->B.get? a=none:=λa ha=>by
  cases q:B.get? a with
  |none=>rfl
  |some o=>exact absurd (aZ (eO (S.stays a o q)) ha) (iD _)
 have Ym:∀a,s.heap.objs.size<=a->∀p∈ak,p.1≠a:=λa ha p hp q=>by
  erw[dX (S.ak p hp),(_ _ _ kZ),bf kZ,(sl e)];rw[q] at e;exact absurd (aZ (eO e) ha) (iD _)
 have hkd:∀y k i,(y,k,i)∈N->au.kindOf y=some (kdOf k):=λy k i m=>by
  have:=(JU.kd _ _ _ m).1;unfold o7;erw[aj eN,<-this]
 have arg:∀y k i v,(y,k,i)∈N->sr (args++xext) i=some v->∃g,(y,g)∈xs.zip (aQ++ext)/\c9 U.heap g v:=λy k i v m e=>by
  erw[ay (rva.get e),(g e1 r)];have lt:i<xs.length:=by refine' c_ u ?_;exact(jg.mp e1).1
  have:=(ag.mp (cJ.mp hA _ m)).1;rcases nq.mp this with q|q
  ·simp[lt] at q
  ·exact⟨g,Ia (by simpa using q) e1,r.mono (jt.tup (jt.of_keeps J9) λ_ _ _=>id)⟩
 have fst:=Di u;have F:D4 N au (sr (args++xext)) B ak H U.heap:=by
  refine⟨⟨_,x.toInCall.ns,λy k i m hk v e=>?_⟩,Yn _ (aa eL.symm),fpo _ (aa eL.symm),λp hp=>?_,λy i m=>?_,λy z i j c my mz cy cz=>?_,λy i m=>?_⟩
  ·erw[ay (arg y k i v m e),(g hm r),<-⟨g,IL (aj fst UI) hm (aj (hkd _ _ _ m) (aj hk rfl)),r⟩]
  ·exact Ym _ (aa eL.symm) p hp
  ·have kc:=hkd _ _ _ m;have lc:scope.names.lookup y=some .cell:=by unfold o7 at kc;rw[eN] at kc;exact kc
   have hs:(au.cells.lookup y).isSome=true:=by refine' aj eC ?_;exact cellsFrom_some _ _ _ (.inl lc)
   erw[bf (jm.mp hs),(c hc)];have ab:=x.above y c (mem_of_lookup hc);rw[eL] at ab;have J:=gg ab;erw[ay (x.cell y c hc),(o Y hd),<-⟨c,o,hc,by erw[aj eL,<-Nat.ne_of_gt ab],Yn c J,fpo c J,Ym c J,Y,_,hd,λv e=>?_⟩,ay (arg y _ i v m e),(g hm r),<-⟨g,I0 (aj fst UI) hm kc,r⟩]
  ·exact name_of_addr x.apart (mem_of_lookup cy) (mem_of_lookup cz)
  ·have:=(ag.mp (cJ.mp hA _ m)).2;injection this
 have R4:∀y k i,(y,k,i)∈N->k≠.ro:=λy k i m q=>by
  replace q:=q.symm;subst q;have:=(ag.mp (cJ.mp hA _ m)).2;injection this
 have O:tW scope.names N au (A.deeper au) (au::l) ak n:=by
  refine⟨⟨⟨by erw[aj eN,<-XW],by erw[aj eN];rfl,JU,eG,eB,⟨ar.handled,?_,?_,?_⟩,⟨_,R⟩,(by intro q;injection q),λe rA=>?_⟩,R,⟨l,rfl⟩⟩,R4⟩
  ·show A.frames.map (au:: ·)=_;erw[aj ar.frames];rfl
  ·show A.depth+1+4*n+2<=900;exact fe [(zp av (zm 4 (zs aW)),zn 900)] (zk (zp (zs av) (zm 4 aW)) 2,zn 900) rt X_
  ·show A.units+3+100*n+90<=9000;exact fe [(zp av (zm 100 (zs aW)),zn 9000)] (zk (zp (zk av 3) (zm 100 aW)) 90,zn 9000) rt aap
  ·rcases bE.mp rA with rfl|rA
   ·exact⟨(by erw[aj eN,aj XW,(q)];injection q),_,R,.inl rfl⟩
   ·erw[aD (fi e rA),(a pF),ay pF,(L b c),<-⟨a,L,b,.inr c⟩]
 refine⟨(TR'.nolimit.keeps J9),Pz (p_mono (P6 TO XO SO O Y ck _ _ _ _ _ _ ⟨SH,F⟩ h) (λfl s2 z=>?_) λe s2 z=>?_)⟩
 ·induction fl using Flow.casesOn with
  |next=>refine dg z ?_;intro ew D q G;exact⟨.none,D,.none,q,G.h⟩
  |brk=>refine dg z ?_;intro ew D q G;exact q.elim
  |ret v=>refine iB z ?_;intro xv ew D r q G;exact⟨xv,D,r,q,G.h⟩
  |cont=>exact z.elim
 ·erw[iR z,(ea C D ew e1 xq G F')];subst e1;have fr:=O.e.ar.frames;have I:∀E,Way B l ea (.ref C) .none E->s2.heap.UpToSlots E->(∃ea' C,∃_:Unit,∃D,iq ea=.ref ea'/\X C D/\gV K B ak os D {s2 with heap:=E}/\Way B l ea' (.ref C) .none E):=λE W k=>
   ⟨ea,C,(),D,rfl,xq,G.h.ups k W.stays G.h.gens G.h.os,W⟩
  rcases F' with F'|F'|F'
  ·exact bc (IS fr R F' λE W k=>I E W k)
  ·exact bc (Ge R F' λE W k=>I E W k)
  ·exact bc (FK fr R F' λE W k=>I E W k)
end
noncomputable def nl(l:List Str):dH:=l.foldr (λx f i=>(x,Kd.loc,i)::f (i+1)) (λ_=>[]) 0
noncomputable abbrev aN:E:=.loc 0
noncomputable abbrev bA:E:=.loc 1
noncomputable abbrev dB:E:=.loc 2
noncomputable abbrev dP:E:=.loc 3
noncomputable abbrev fB:E:=.loc 4
noncomputable abbrev fG:E:=.loc 5
noncomputable abbrev jS:E:=.loc 6
noncomputable abbrev AZ:E:=.loc 7
noncomputable abbrev Dr:E:=.loc 8
noncomputable abbrev w_:E:=.loc 9
noncomputable abbrev Ei:E:=.loc 10
noncomputable abbrev Bi:E:=.loc 11
noncomputable abbrev IQ:E:=.loc 12
noncomputable abbrev OZ:E:=.loc 13
noncomputable abbrev ek(k:Int):E:=.cst (.int k)
noncomputable abbrev bD(f:Nat)(l:List E):E:=.call (.fn f) l
noncomputable abbrev dj(e:E):S:=.ret (some e)
abbrev bw(x:E)(k:Int):E:=.sub x (ek k)
def sI:dH:=nl ["n","most","out"]
abbrev mH:List S:=[.dm (.or [(.cmp .Lt aN (ek 0)),(.cmp .Gt aN bA)]) [.raise 80 (.text [aN,bA])] [],.bq 2 (.call .cZ []),.oK (.cmp .GtE aN (ek 128)) [.expr (.bp dB 0 [(.bin .BitOr (.bin .BitAnd aN (ek 127)) (ek 128))]),.pj 0 .RShift (ek 7)],.expr (.bp dB 0 [aN]),dj (.call .bytes [dB])]
def uw:dH:=nl ["data","at","octets","most","n","shift","turn","octet"]
abbrev oV:List S:=[.dm (.cmp .Lt bA (ek 0)) [.raise 68 (.text [bA])] [],.bq 4 (ek 0),.bq 5 (ek 0),.forR 6 none dB [.dm (.cmp .GtE bA (.call .len [aN])) [.bad] [],.bq 7 (.sub aN bA),.pj 1 .Add (ek 1),.pj 4 .BitOr (.bin .LShift (.bin .BitAnd AZ (ek 127)) fG),.dm (.cmp .Lt AZ (ek 128)) [.dm (.cmp .Gt fB dP) [.bad] [],dj (.tup [fB,bA])] [],.pj 5 .Add (ek 7)],.raise 56 (.text [dB])]
def wM:dH:=nl ["n"]
abbrev pT:List S:=[.dm (.and [(.cmp .GtE aN (ek 0)),(.cmp .Lt aN (ek 128))]) [dj (.call .bytes [(.lst [aN])])] [],dj (bD 137 [aN,(ek 18446744073709551615)])]
def uM:dH:=nl ["data","at"]
abbrev oD:List S:=[.dm (.and [(.cmp .GtE bA (ek 0)),(.cmp .Lt bA (.call .len [aN])),(.cmp .Lt (.sub aN bA) (ek 128))]) [dj (.tup [(.sub aN bA),(.bin .Add bA (ek 1))])] [],dj (bD 144 [aN,bA,(ek 10),(ek 18446744073709551615)])]
def se:dH:=nl ["n"]
abbrev mK:List S:=[.dm (.and [(.cmp .GtE aN (ek 0)),(.cmp .Lt aN (ek 128))]) [dj (.call .bytes [(.lst [aN])])] [],dj (bD 137 [aN,(ek 4294967295)])]
def qE:dH:=nl ["data","at"]
abbrev lL:List S:=[.dm (.and [(.cmp .GtE bA (ek 0)),(.cmp .Lt bA (.call .len [aN])),(.cmp .Lt (.sub aN bA) (ek 128))]) [dj (.tup [(.sub aN bA),(.bin .Add bA (ek 1))])] [],dj (bD 144 [aN,bA,(ek 5),(ek 4294967295)])]
def qT:dH:=nl ["n","count"]
abbrev lD:List S:=[.dm (.or [(.cmp .Lt aN (ek 0)),(.cmp .Gt aN (ek 18446744073709551615))]) [.raise 80 (.text [aN,(ek 18446744073709551615)])] [],.bq 1 (ek 1),.oK (.cmp .GtE aN (ek 128)) [.pj 0 .RShift (ek 7),.pj 1 .Add (ek 1)],dj bA]
def qF:dH:=nl ["data","at","count"]
abbrev lJ:List S:=[.zB [2,1] (bD 172 [aN,bA]),.dm (.cmp .Gt (.bin .Add bA dB) (.call .len [aN])) [.bad] [],dj (.tup [(.call .bytes [(.A0 aN (some bA) (some (.bin .Add bA dB)))]),(.bin .Add bA dB)])]
def oC:dH:=nl ["self","data","at"]
abbrev i7:List S:=[.dm (.or [(.cmp .Lt dB (ek 0)),(.cmp .Gt dB (.call .len [bA]))]) [.bad] [],.cD aN 3 bA,.cD aN 5 dB]
def uo:dH:=nl ["self"]
abbrev oU:List S:=[dj (.bin .Sub (.call .len [(.attr aN 3)]) (.attr aN 5))]
def qA:dH:=nl ["self","at","n"]
abbrev lQ:List S:=[.bq 1 (.attr aN 5),.dm (.and [(.cmp .Lt bA (.call .len [(.attr aN 3)])),(.cmp .Lt (.sub (.attr aN 3) bA) (ek 128))]) [.cD aN 5 (.bin .Add bA (ek 1)),dj (.sub (.attr aN 3) bA)] [],.zB [2,1] (bD 158 [(.attr aN 3),bA]),.cD aN 5 bA,dj dB]
def om:dH:=nl ["self","b","at"]
abbrev jC:List S:=[.zB [1,2] (bD 186 [(.attr aN 3),(.attr aN 5)]),.cD aN 5 dB,dj bA]
def uz:dH:=nl ["self","n"]
abbrev oH:List S:=[.dm (.cmp .GtE (.attr aN 5) (.call .len [(.attr aN 3)])) [.raise 68 (.text [])] [],.bq 1 (.sub (.attr aN 3) (.attr aN 5)),.dm (.cmp .Gt bA (ek 1)) [.raise 56 (.text [bA])] [],.Dk aN 5 .Add (ek 1),dj (.cmp .Eq bA (ek 1))]
def ui:dH:=nl ["self"]
abbrev oN:List S:=[.dm (.cmp .Lt (.attr aN 5) (.call .len [(.attr aN 3)])) [.bad] []]
def yJ:dH:=nl ["self"]
abbrev rL:List S:=[.cD aN 4 (.call .cZ [])]
def uj:dH:=nl ["self","n"]
abbrev oR:List S:=[.dm (.and [(.cmp .GtE bA (ek 0)),(.cmp .Lt bA (ek 128))]) [.expr (.bp (.attr aN 4) 0 [bA])] [.expr (.bp (.attr aN 4) 2 [(bD 151 [bA])])]]
def qR:dH:=nl ["self","b"]
abbrev lN:List S:=[.expr (.bp (.attr aN 4) 2 [(bD 165 [(.call .len [bA])])]),.expr (.bp (.attr aN 4) 2 [bA])]
def yA:dH:=nl ["self","b"]
abbrev rZ:List S:=[.dm bA [.expr (.bp (.attr aN 4) 0 [(ek 1)])] [.expr (.bp (.attr aN 4) 0 [(ek 0)])]]
def yg:dH:=nl ["self"]
abbrev s8:List S:=[dj (.call .bytes [(.attr aN 4)])]
def EH:dH:=nl ["ids","out","nid"]
abbrev Ag:List S:=[.bq 1 (.lst []),.q7 2 (.call .sorted [aN]) [.dm (.or [(.not bA),(.cmp .NotEq (.sub bA (ek (-1))) dB)]) [.expr (.bp bA 0 [dB])] []],dj bA]
def we:dH:=nl ["cursor","count"]
abbrev pR:List S:=[.bq 1 (.bp aN 4 []),.dm (.cmp .Gt bA (.bp aN 8 [])) [.bad] [],dj bA]
def vU:dH:=nl ["self","term","index","kind","data"]
abbrev qc:List S:=[.cD aN 0 bA,.cD aN 1 dB,.cD aN 2 dP,.cD aN 3 fB]
def yx:dH:=nl ["self"]
abbrev sj:List S:=[dj (.tup [(.attr aN 0),(.attr aN 1),(.attr aN 2),(.attr aN 3)])]
def wO:dH:=nl ["self"]
abbrev qd:List S:=[dj (.call (.cls 407 376) [(.attr aN 0),(.attr aN 1),(.attr aN 2),(.attr aN 3)])]
def qs:dH:=nl ["self"]
abbrev lF:List S:=[dj (.call .len [(.attr aN 3)])]
def vZ:dH:=nl ["self","length","head"]
abbrev pX:List S:=[.bq 1 (.call .len [(.attr aN 3)]),.bq 2 (.bin .Add (.bin .Add (bD 179 [(.attr aN 0)]) (bD 179 [(.attr aN 1)])) (bD 179 [(.attr aN 2)])),dj (.bin .Add (.bin .Add dB (bD 179 [bA])) bA)]
def rR:dH:=nl ["entry","sink"]
abbrev mE:List S:=[.bq 1 (.call (.cls 344 285) []),.expr (.bp bA 4 [(.attr aN 0)]),.expr (.bp bA 4 [(.attr aN 1)]),.expr (.bp bA 4 [(.attr aN 2)]),.expr (.bp bA 5 [(.attr aN 3)]),dj (.bp bA 7 [])]
def rT:dH:=nl ["data","cursor","term","index","kind","body"]
abbrev mF:List S:=[.bq 1 (.call (.cls 267 201) [aN]),.bq 2 (.bp bA 4 []),.bq 3 (.bp bA 4 []),.bq 4 (.bp bA 4 []),.dm (.and [(.cmp .NotEq fB (ek 0)),(.cmp .NotEq fB (ek 2))]) [.raise 56 (.text [fB])] [],.bq 5 (.bp bA 5 []),.expr (.bp bA 7 []),dj (.call (.cls 407 376) [dB,dP,fB,fG])]
def vP:dH:=nl ["entries","n","total","kept","entry"]
abbrev qm:List S:=[.bq 2 (ek 0),.bq 3 (.lst []),.q7 4 aN [.pj 2 .Add (.bp fB 12 []),.dm (.and [dP,(.cmp .Gt dB bA)]) [.brk] [],.expr (.bp dP 0 [fB])],dj dP]
def ph:dH:=nl ["self","voters","learners","outgoing","learners_next","auto_leave"]
abbrev km:List S:=[.cD aN 6 (bD 355 [bA]),.cD aN 7 (bD 355 [dB]),.cD aN 8 (bD 355 [dP]),.cD aN 9 (bD 355 [fB]),.cD aN 10 fG]
def qK:dH:=nl ["self"]
abbrev lO:List S:=[dj (.tup [(.call .tuple [(.attr aN 6)]),(.call .tuple [(.attr aN 7)]),(.call .tuple [(.attr aN 8)]),(.call .tuple [(.attr aN 9)]),(.attr aN 10)])]
def pD:dH:=nl ["self"]
abbrev kj:List S:=[dj (.call (.cls 463 446) [(.attr aN 6),(.attr aN 7),(.attr aN 8),(.attr aN 9),(.attr aN 10)])]
def BQ:dH:=nl ["sink","ids","nid"]
abbrev xV:List S:=[.expr (.bp aN 4 [(.call .len [bA])]),.q7 2 bA [.expr (.bp aN 4 [dB])]]
def Ad:dH:=nl ["cursor","out","_","nid"]
abbrev vx:List S:=[.bq 1 (.lst []),.forR 2 none (bD 362 [aN]) [.bq 3 (.bp aN 4 []),.dm (.and [bA,(.cmp .LtE dP (.sub bA (ek (-1))))]) [.bad] [],.expr (.bp bA 0 [dP])],dj bA]
def uq:dH:=nl ["conf","sink"]
abbrev oO:List S:=[.bq 1 (.call (.cls 344 285) []),.expr (bD 474 [bA,(.attr aN 6)]),.expr (bD 474 [bA,(.attr aN 7)]),.expr (bD 474 [bA,(.attr aN 8)]),.expr (bD 474 [bA,(.attr aN 9)]),.expr (.bp bA 6 [(.attr aN 10)]),dj (.bp bA 7 [])]
def uD:dH:=nl ["data","cursor","voters","learners","outgoing","learners_next","auto_leave"]
abbrev oX:List S:=[.bq 1 (.call (.cls 267 201) [aN]),.bq 2 (bD 481 [bA]),.bq 3 (bD 481 [bA]),.bq 4 (bD 481 [bA]),.bq 5 (bD 481 [bA]),.bq 6 (.bp bA 6 []),.expr (.bp bA 7 []),dj (.call (.cls 463 446) [dB,dP,fB,fG,jS])]
def qS:dH:=nl ["self","index","term","conf","data"]
abbrev lI:List S:=[.cD aN 1 bA,.cD aN 0 dB,.cD aN 11 dP,.cD aN 3 fB]
def rW:dH:=nl ["self"]
abbrev nh:List S:=[dj (.tup [(.attr aN 1),(.attr aN 0),(.bp (.attr aN 11) 9 []),(.attr aN 3)])]
def qD:dH:=nl ["self"]
abbrev lC:List S:=[dj (.call (.cls 533 509) [(.attr aN 1),(.attr aN 0),(.bp (.attr aN 11) 10 []),(.attr aN 3)])]
def oh:dH:=nl ["snapshot","sink"]
abbrev jM:List S:=[.bq 1 (.call (.cls 344 285) []),.expr (.bp bA 4 [(.attr aN 1)]),.expr (.bp bA 4 [(.attr aN 0)]),.expr (.bp bA 5 [(bD 488 [(.attr aN 11)])]),.expr (.bp bA 5 [(.attr aN 3)]),dj (.bp bA 7 [])]
def og:dH:=nl ["data","cursor","index","term","conf","body"]
abbrev jK:List S:=[.bq 1 (.call (.cls 267 201) [aN]),.bq 2 (.bp bA 4 []),.bq 3 (.bp bA 4 []),.bq 4 (bD 495 [(.bp bA 5 [])]),.bq 5 (.bp bA 5 []),.expr (.bp bA 7 []),dj (.call (.cls 533 509) [dB,dP,fB,fG])]
def s6:dH:=nl ["self","kind","to","frm","term"]
abbrev mP:List S:=[.cD aN 2 bA,.cD aN 12 dB,.cD aN 13 dP,.cD aN 0 fB,.cD aN 14 (ek 0),.cD aN 1 (ek 0),.cD aN 15 (.lst []),.cD aN 16 (ek 0),.cD aN 17 (.cst .none),.cD aN 18 (.cst (.bool false)),.cD aN 19 (ek 0),.cD aN 20 (.cst (.bytes []))]
def ux:dH:=nl ["self","entries","snapshot"]
abbrev oB:List S:=[.bq 1 (.call .tuple [(.comp (.bp (.loc 1000) 9 []) (.attr aN 15) none)]),.bq 2 (.cst .none),.dm (.qG (.attr aN 17) true) [.bq 2 (.bp (.attr aN 17) 9 [])] [],dj (.tup [(.attr aN 2),(.attr aN 12),(.attr aN 13),(.attr aN 0),(.attr aN 14),(.attr aN 1),bA,(.attr aN 16),dB,(.attr aN 18),(.attr aN 19),(.attr aN 20)])]
def s_:dH:=nl ["self","other"]
abbrev mQ:List S:=[.bq 1 (.call (.cls 578 565) [(.attr aN 2),(.attr aN 12),(.attr aN 13),(.attr aN 0)]),.cD bA 14 (.attr aN 14),.cD bA 1 (.attr aN 1),.cD bA 15 (.comp (.bp (.loc 1000) 10 []) (.attr aN 15) none),.cD bA 16 (.attr aN 16),.dm (.qG (.attr aN 17) true) [.cD bA 17 (.bp (.attr aN 17) 10 [])] [],.cD bA 18 (.attr aN 18),.cD bA 19 (.attr aN 19),.cD bA 20 (.attr aN 20),dj bA]
def pq:dH:=nl ["message","sink","entry"]
abbrev ko:List S:=[.bq 1 (.call (.cls 344 285) []),.expr (.bp bA 4 [(.attr aN 2)]),.expr (.bp bA 4 [(.attr aN 12)]),.expr (.bp bA 4 [(.attr aN 13)]),.expr (.bp bA 4 [(.attr aN 0)]),.expr (.bp bA 4 [(.attr aN 14)]),.expr (.bp bA 4 [(.attr aN 1)]),.expr (.bp bA 4 [(.attr aN 16)]),.expr (.bp bA 4 [(.attr aN 19)]),.expr (.bp bA 6 [(.attr aN 18)]),.expr (.bp bA 4 [(.call .len [(.attr aN 15)])]),.q7 2 (.attr aN 15) [.expr (.bp bA 5 [(bD 418 [dB])])],.expr (.bp bA 6 [(.qG (.attr aN 17) true)]),.dm (.qG (.attr aN 17) true) [.expr (.bp bA 5 [(bD 544 [(.attr aN 17)])])] [],.expr (.bp bA 5 [(.attr aN 20)]),dj (.bp bA 7 [])]
def pG:dH:=nl ["data","cursor","kind","to","frm","message","_"]
abbrev kg:List S:=[.bq 1 (.call (.cls 267 201) [aN]),.bq 2 (.bp bA 4 []),.dm (.cmp .Gt dB (ek 20)) [.raise 56 (.text [dB])] [],.bq 3 (.bp bA 4 []),.bq 4 (.bp bA 4 []),.bq 5 (.call (.cls 578 565) [dB,dP,fB,(.bp bA 4 [])]),.cD fG 14 (.bp bA 4 []),.cD fG 1 (.bp bA 4 []),.cD fG 16 (.bp bA 4 []),.cD fG 19 (.bp bA 4 []),.cD fG 18 (.bp bA 6 []),.forR 6 none (bD 362 [bA]) [.expr (.bp (.attr fG 15) 0 [(bD 425 [(.bp bA 5 [])])])],.dm (.bp bA 6 []) [.cD fG 17 (bD 551 [(.bp bA 5 [])])] [],.cD fG 20 (.bp bA 5 []),.expr (.bp bA 7 []),dj fG]
def sA:dH:=nl ["self","kind","client","number","key","value","expect"]
abbrev mS:List S:=[.cD aN 2 bA,.cD aN 21 dB,.cD aN 22 dP,.cD aN 23 fB,.cD aN 24 fG,.cD aN 25 jS]
def uW:dH:=nl ["self"]
abbrev oS:List S:=[dj (.tup [(.attr aN 2),(.attr aN 21),(.attr aN 22),(.attr aN 23),(.attr aN 24),(.attr aN 25)])]
def pd:dH:=nl ["self","sink"]
abbrev kB:List S:=[.dm (.or [(.cmp .Lt (.attr aN 2) (ek 0)),(.cmp .Gt (.attr aN 2) (ek 6))]) [.raise 128 (.text [(.attr aN 2)])] [],.bq 1 (.call (.cls 344 285) []),.iw [.expr (.bp bA 4 [(.attr aN 2)]),.expr (.bp bA 4 [(.attr aN 21)]),.expr (.bp bA 4 [(.attr aN 22)]),.expr (.bp bA 5 [(.attr aN 23)]),.expr (.bp bA 5 [(.attr aN 24)]),.expr (bD 638 [bA,(.attr aN 25)])] 80 128,dj (.bp bA 7 [])]
def yM:dH:=nl ["sink","octets"]
abbrev rX:List S:=[.expr (.bp aN 6 [(.qG bA true)]),.dm (.qG bA true) [.expr (.bp aN 5 [bA])] []]
def wV:dH:=nl ["cursor"]
abbrev pY:List S:=[.dm (.bp aN 6 []) [dj (.bp aN 5 [])] [],dj (.cst .none)]
def pe:dH:=nl ["data","cursor","kind","client","number","key","value","expect"]
abbrev kn:List S:=[.iw [.bq 1 (.call (.cls 267 201) [aN]),.bq 2 (.bp bA 4 []),.bq 3 (.bp bA 4 []),.bq 4 (.bp bA 4 []),.bq 5 (.bp bA 5 []),.bq 6 (.bp bA 5 []),.bq 7 (bD 645 [bA]),.expr (.bp bA 7 [])] 56 128,.dm (.cmp .Gt dB (ek 6)) [.raise 128 (.text [dB])] [],dj (.call (.cls 627 610) [dB,dP,fB,fG,jS,AZ])]
def qz:dH:=nl ["self","offset"]
abbrev lj:List S:=[.cD aN 17 (.cst .none),.cD aN 15 (.lst []),.cD aN 26 bA]
def j9:dH:=nl ["self","i"]
abbrev hJ:List S:=[.dm (.cmp .Lt bA (.attr aN 26)) [.dm (.and [(.qG (.attr aN 17) true),(.cmp .Eq (.attr (.attr aN 17) 1) bA)]) [dj (.attr (.attr aN 17) 0)] [],dj (.cst .none)] [],.dm (.cmp .GtE bA (.bin .Add (.attr aN 26) (.call .len [(.attr aN 15)]))) [dj (.cst .none)] [],dj (.attr (.sub (.attr aN 15) (.bin .Sub bA (.attr aN 26))) 0)]
def kU:dH:=nl ["self","i","term","found"]
abbrev iz:List S:=[.dm (.cmp .Lt bA (.attr aN 26)) [.ret none] [],.bq 3 (.bp aN 14 [bA]),.dm (.or [(.qG dP false),(.cmp .NotEq dP dB)]) [.ret none] [],.cD aN 15 (.A0 (.attr aN 15) (some (.bin .Sub (.bin .Add bA (ek 1)) (.attr aN 26))) none),.cD aN 26 (.bin .Add bA (ek 1))]
def gi:dH:=nl ["self","entries","after"]
abbrev eV:List S:=[.dm (.cmp .Eq (.call .len [bA]) (ek 0)) [.ret none] [],.bq 2 (.attr (bw bA 0) 1),.dm (.cmp .Eq dB (.bin .Add (.attr aN 26) (.call .len [(.attr aN 15)]))) [.cD aN 15 (.bin .Add (.attr aN 15) bA)] [.dm (.cmp .LtE dB (.attr aN 26)) [.cD aN 26 dB,.cD aN 15 (.A0 bA none none)] [.dm (.cmp .Lt dB (.bin .Add (.attr aN 26) (.call .len [(.attr aN 15)]))) [.cD aN 15 (.bin .Add (.bp aN 17 [(.attr aN 26),dB]) bA)] [.bad]]]]
def qJ:dH:=nl ["self","lo","hi"]
abbrev lG:List S:=[.dm (.cmp .Gt bA dB) [.raise 104 (.text [bA,dB])] [],.dm (.or [(.cmp .Lt bA (.attr aN 26)),(.cmp .Gt dB (.bin .Add (.attr aN 26) (.call .len [(.attr aN 15)])))]) [.bad] [],dj (.A0 (.attr aN 15) (some (.bin .Sub bA (.attr aN 26))) (some (.bin .Sub dB (.attr aN 26))))]
def sY:dH:=nl ["self","rows","e","snap"]
abbrev mJ:List S:=[.bq 1 (.lst []),.q7 2 (.attr aN 15) [.expr (.bp bA 0 [(.bp dB 9 [])])],.bq 3 (.cst .none),.dm (.qG (.attr aN 17) true) [.bq 3 (.bp (.attr aN 17) 9 [])] [],dj (.tup [(.attr aN 26),(.call .tuple [bA]),dP])]
def yy:dH:=nl ["nums","i"]
abbrev sq:List S:=[dj (.bin .Add (.sub aN (.bin .Mod bA (.call .len [aN]))) (.bin .Mult (ek 1009) (.bin .FloorDiv bA (.call .len [aN]))))]
def yS:dH:=nl ["y"]
abbrev sM:List S:=[.dm (.cmp .Eq (.bin .Mod aN (ek 11)) (ek 10)) [dj (ek 18446744073709551615)] [],dj (.bin .Add (.bin .Sub (.bin .Pow (ek 128) (.bin .Mod aN (ek 11))) (ek 1)) (.bin .Mod (.bin .FloorDiv aN (ek 11)) (ek 2)))]
def uC:dH:=nl ["y"]
abbrev oA:List S:=[.dm (.cmp .Eq (.bin .Mod aN (ek 2)) (ek 0)) [dj (.bin .Add (ek 18446744073709551616) aN)] [],dj (.bin .Sub (ek 0) aN)]
def yL:dH:=nl ["y"]
abbrev sE:List S:=[dj (.A0 (.bin .Mult (.call .bytes [(.lst [(.bin .Mod aN (ek 256)),(ek 200),(ek 0)])]) (ek 44)) none (some (.sub (.tup [(ek 3),(ek 0),(ek 129),(ek 1),(ek 128),(ek 2),(ek 127),(ek 5)]) (.bin .Mod (.bin .FloorDiv aN (ek 256)) (ek 8)))))]
noncomputable def zK:dH:=[("n",.cell,0),("groups",.cell,1)]
abbrev vk:List S:=[.bq 1 (ek 1),.oK (.cmp .GtE aN (.bin .Pow (ek 128) bA)) [.bq 1 (.bin .Add bA (ek 1))],dj (.call .bytes [(.j6 (.bin .Add (.bin .Mod (.bin .FloorDiv aN (.bin .Pow (ek 128) (.loc 1000))) (ek 128)) (.ite (.cmp .Lt (.bin .Add (.loc 1000) (ek 1)) bA) (ek 128) (ek 0))) bA)])]
def yK:dH:=nl ["b"]
abbrev sX:List S:=[dj (.bin .Add (bD 769 [(.call .len [aN])]) aN)]
def wo:dH:=nl ["old","y","fresh"]
abbrev p9:List S:=[.bq 2 (bD 750 [bA]),.dm (.cmp .Eq (.call .len [(bD 769 [dB])]) (.call .len [(bD 769 [aN])])) [.bq 2 (bD 750 [(.bin .Add bA (ek 2))])] [],dj dB]
def nZ:dH:=nl ["old","y","fresh"]
abbrev jP:List S:=[.bq 2 (bD 764 [bA]),.dm (.cmp .Eq (.call .len [dB]) (.call .len [aN])) [.bq 2 (.bin .Add dB (.cst (.bytes [7])))] [],dj dB]
def vO:dH:=nl ["row"]
abbrev pP:List S:=[dj (.bin .Add (.bin .Add (.bin .Add (bD 769 [(bw aN 0)]) (bD 769 [(bw aN 1)])) (bD 769 [(bw aN 2)])) (bD 776 [(bw aN 3)]))]
def Av:dH:=nl ["pair","f","fresh"]
abbrev vm:List S:=[.hK (bw aN 1) bA dB,.dm (.cmp .Eq bA (ek 0)) [.cD (bw aN 0) 0 dB] [.dm (.cmp .Eq bA (ek 1)) [.cD (bw aN 0) 1 dB] [.dm (.cmp .Eq bA (ek 2)) [.cD (bw aN 0) 2 dB] [.cD (bw aN 0) 3 dB]]]]
def yc:dH:=nl ["pair","f","y","old"]
abbrev tj:List S:=[.bq 3 (.sub (bw aN 1) bA),.dm (.or [(.cmp .Lt bA (ek 2)),(.and [(.cmp .Eq bA (ek 2)),(.cmp .Eq (.bin .Mod dB (ek 3)) (ek 0))])]) [.expr (bD 804 [aN,bA,(bD 783 [dP,(.bin .FloorDiv dB (ek 3))])])] [.dm (.cmp .Eq bA (ek 2)) [.expr (bD 804 [aN,bA,(.ite (.cmp .Eq dP (ek 0)) (ek 2) (ek 0))])] [.expr (bD 804 [aN,bA,(bD 790 [dP,dB])])]]]
def rY:dH:=nl ["pair"]
abbrev nj:List S:=[dj (.and [(.cmp .Eq (.bp (bw aN 0) 12 []) (.call .len [(bD 797 [(bw aN 1)])])),(.cmp .Eq (.bp (bw aN 0) 11 []) (.call .len [(bw (bw aN 1) 3)]))])]
def nP:dH:=nl ["data"]
abbrev jQ:List S:=[.kA [dj (.bp (bD 425 [aN]) 9 [])] 56 .none]
def yi:dH:=nl ["pair","octets"]
abbrev rK:List S:=[.bq 1 (bD 797 [(bw aN 1)]),.dm (.or [(.not (bD 818 [aN])),(.cmp .NotEq (bD 418 [(bw aN 0)]) bA),(.cmp .NotEq (.bp (bw aN 0) 9 []) (.call .tuple [(bw aN 1)]))]) [dj (.cst (.bool false))] [],.dm (.or [(.cmp .Eq (bw (bw aN 1) 2) (ek 0)),(.cmp .Eq (bw (bw aN 1) 2) (ek 2))]) [dj (.cmp .Eq (bD 825 [bA]) (.call .tuple [(bw aN 1)]))] [],dj (.qG (bD 825 [bA]) false)]
def wG:dH:=nl ["entries","rows","y","weights","n","fit","k"]
abbrev pN:List S:=[.bq 3 (.comp (.call .len [(bD 797 [(.loc 1000)])]) bA none),.bq 4 (.bin .Sub (.bin .Add (.call .sum [(.A0 dP none (some (.bin .Mod dB (.bin .Add (.call .len [bA]) (ek 1)))))]) (.bin .Mod (.bin .FloorDiv dB (ek 7)) (ek 3))) (ek 1)),.bq 5 (.call .min [(ek 1),(.call .len [bA])]),.forR 6 none (.call .len [bA]) [.dm (.cmp .LtE (.call .sum [(.A0 dP none (some (.bin .Add jS (ek 1))))]) fB) [.bq 5 (.bin .Add jS (ek 1))] []],dj (.cmp .Eq (.comp (.bp (.loc 1000) 9 []) (bD 432 [aN,fB]) none) (.comp (.call .tuple [(.loc 1000)]) (.A0 bA none (some fG)) none))]
def sV:dH:=nl ["what","thing"]
abbrev mY:List S:=[.kA [.dm (.cmp .Eq aN (ek 0)) [.expr (.bp bA 12 [])] [.dm (.cmp .Eq aN (ek 1)) [.expr (bD 418 [bA])] [.dm (.cmp .Eq aN (ek 2)) [.expr (bD 589 [bA])] [.expr (bD 432 [bA,(ek 99999)])]]]] 80 (.bool true),dj (.cst (.bool false))]
def yO:dH:=nl ["s","conf"]
abbrev tc:List S:=[.bq 1 (.bin .Add (.bin .Add (.call .bytes [(.lst [(.call .len [(bw aN 2)])])]) (.bp (.cst (.bytes [])) 3 [(.comp (bD 769 [(.loc 1000)]) (bw aN 2) none)])) (.call .bytes [(.lst [(ek 0),(ek 0),(ek 0),(.ite (bw aN 3) (ek 1) (ek 0))])])),dj (.bin .Add (.bin .Add (.bin .Add (bD 769 [(bw aN 0)]) (bD 769 [(bw aN 1)])) (bD 776 [bA])) (bD 776 [(bw aN 4)]))]
def rI:dH:=nl ["g","out","pair"]
abbrev mZ:List S:=[.bq 1 (.bin .Add (.bp (.cst (.bytes [])) 3 [(.comp (bD 769 [(.loc 1000)]) (bw aN 1) none)]) (.call .bytes [(.lst [(.ite (bw aN 2) (ek 1) (ek 0)),(.call .len [(bw aN 3)])])])),.q7 2 (bw aN 3) [.bq 1 (.bin .Add bA (bD 776 [(bD 797 [(bw dB 1)])]))],.dm (.qG (bw aN 4) false) [.bq 1 (.bin .Add bA (.cst (.bytes [0])))] [.bq 1 (.bin .Add (.bin .Add bA (.cst (.bytes [1]))) (bD 776 [(bD 849 [(bw aN 4)])]))],dj (.bin .Add bA (bD 776 [(bw aN 5)]))]
def mI:dH:=nl ["g","h","held","s","rows"]
abbrev jh:List S:=[.bq 1 (bw aN 1),.bq 2 (.cst .none),.dm (.qG (bw aN 4) true) [.bq 3 (bw aN 4),.bq 2 (.tup [(bw dP 0),(bw dP 1),(.tup [(.call .tuple [(bw dP 2)]),(.tup []),(.tup []),(.tup []),(bw dP 3)]),(bw dP 4)])] [],.bq 4 (.call .tuple [(.comp (.call .tuple [(bw (.loc 1000) 1)]) (bw aN 3) none)]),dj (.tup [(bw bA 0),(bw bA 1),(bw bA 2),(bw bA 3),(bw bA 4),(bw bA 5),fB,(bw bA 6),dB,(bw aN 2),(bw bA 7),(bw aN 5)])]
def qr:dH:=nl ["g"]
abbrev lP:List S:=[dj (.cmp .Eq (.call .len [(.comp (.loc 1000) (bw aN 3) (some (.and [(.cmp .NotEq (bw (bw (.loc 1000) 1) 2) (ek 0)),(.cmp .NotEq (bw (bw (.loc 1000) 1) 2) (ek 2))])))]) (ek 0))]
def lU:dH:=nl ["data"]
abbrev iO:List S:=[.kA [dj (.bp (bD 596 [aN]) 9 [])] 56 .none]
def wh:dH:=nl ["g","row","octets"]
abbrev pZ:List S:=[.bq 1 (bD 859 [aN]),.bq 2 (bD 854 [aN]),.dm (.or [(.cmp .NotEq (.bp (bw aN 0) 9 []) bA),(.cmp .NotEq (bD 589 [(bw aN 0)]) dB)]) [dj (.cst (.bool false))] [],.dm (bD 864 [aN]) [dj (.cmp .Eq (bD 871 [dB]) bA)] [],dj (.qG (bD 871 [dB]) false)]
def zW:dH:=nl ["g","f","n"]
abbrev vf:List S:=[.hK (bw aN 1) bA dB,.dm (.cmp .Eq bA (ek 0)) [.cD (bw aN 0) 2 dB] [.dm (.cmp .Eq bA (ek 1)) [.cD (bw aN 0) 12 dB] [.dm (.cmp .Eq bA (ek 2)) [.cD (bw aN 0) 13 dB] [.dm (.cmp .Eq bA (ek 3)) [.cD (bw aN 0) 0 dB] [.dm (.cmp .Eq bA (ek 4)) [.cD (bw aN 0) 14 dB] [.dm (.cmp .Eq bA (ek 5)) [.cD (bw aN 0) 1 dB] [.dm (.cmp .Eq bA (ek 6)) [.cD (bw aN 0) 16 dB] [.cD (bw aN 0) 19 dB]]]]]]]]
def wy:dH:=nl ["g","s"]
abbrev qj:List S:=[.hK aN (ek 4) bA,.cD (bw aN 0) 17 (.call (.cls 533 509) [(bw bA 0),(bw bA 1),(.call (.cls 463 446) [(bw bA 2),(.lst []),(.lst []),(.lst []),(bw bA 3)]),(bw bA 4)])]
def yh:dH:=nl ["k","f","fresh"]
abbrev sx:List S:=[.hK (bw aN 1) bA dB,.dm (.cmp .Eq bA (ek 0)) [.cD (bw aN 0) 2 dB] [.dm (.cmp .Eq bA (ek 1)) [.cD (bw aN 0) 21 dB] [.dm (.cmp .Eq bA (ek 2)) [.cD (bw aN 0) 22 dB] [.dm (.cmp .Eq bA (ek 3)) [.cD (bw aN 0) 23 dB] [.dm (.cmp .Eq bA (ek 4)) [.cD (bw aN 0) 24 dB] [.cD (bw aN 0) 25 dB]]]]]]
def r_:dH:=nl ["row","out"]
abbrev mT:List S:=[.bq 1 (.bin .Add (.bin .Add (.bin .Add (.bin .Add (bD 769 [(bw aN 0)]) (bD 769 [(bw aN 1)])) (bD 769 [(bw aN 2)])) (bD 776 [(bw aN 3)])) (bD 776 [(bw aN 4)])),.dm (.qG (bw aN 5) false) [dj (.bin .Add bA (.cst (.bytes [0])))] [],dj (.bin .Add (.bin .Add bA (.cst (.bytes [1]))) (bD 776 [(bw aN 5)]))]
def wt:dH:=nl ["k","octets"]
abbrev pW:List S:=[.bq 1 (bD 906 [(bw aN 1)]),.dm (.or [(.cmp .NotEq (.bp (bw aN 0) 13 []) bA),(.cmp .NotEq (.bp (bw aN 0) 9 []) (.call .tuple [(bw aN 1)]))]) [dj (.cst (.bool false))] [],dj (.cmp .Eq (.bp (bD 652 [bA]) 9 []) (.call .tuple [(bw aN 1)]))]
def jH:dH:=nl ["command"]
abbrev gG:List S:=[.kA [.expr (.bp aN 13 [])] 128 (.bool true),dj (.cst (.bool false))]
def lV:dH:=nl ["pool","j","y","pair","f","old","lone","good"]
abbrev iQ:List S:=[.bq 3 (.sub aN bA),.bq 4 (.bin .Mod dB (ek 3)),.bq 5 (.sub (bw dP 1) fB),.expr (bD 804 [dP,fB,(bD 757 [(.bin .FloorDiv dB (ek 3))])]),.bq 6 (.call (.cls 578 565) [(ek 3),(ek 1),(ek 2),(ek 3)]),.expr (.bp (.attr jS 15) 0 [(bw dP 0)]),.bq 7 (.and [(bD 844 [(ek 0),(bw dP 0)]),(bD 844 [(ek 1),(bw dP 0)]),(bD 844 [(ek 2),jS])]),.dm (.cmp .Gt bA (ek 0)) [.bq 7 (.and [AZ,(bD 844 [(ek 3),(.comp (bw (.loc 1000) 0) aN none)])])] [],.expr (bD 804 [dP,fB,fG]),dj (.and [AZ,(bD 832 [dP])])]
def nX:dH:=nl ["pool","j","y","pair","octets","twin"]
abbrev jJ:List S:=[.bq 3 (.sub aN bA),.dm (.and [(.cmp .NotEq (bw (bw dP 1) 2) (ek 0)),(.cmp .NotEq (bw (bw dP 1) 2) (ek 2))]) [.expr (bD 804 [dP,(ek 2),(.bin .Mult (.bin .Mod dB (ek 2)) (ek 2))])] [],.bq 4 (bD 418 [(bw dP 0)]),.dm (.cmp .NotEq fB (bD 797 [(bw dP 1)])) [dj (.cst (.bool false))] [],.bq 5 (.lst [(bD 425 [fB]),(.call .list [(bw dP 1)])]),.expr (bD 811 [fG,(.bin .Mod dB (ek 4)),(.bin .FloorDiv dB (ek 4))]),.hK aN bA fG,dj (.and [(bD 832 [fG]),(bD 832 [dP])])]
def uT:dH:=nl ["pool","j","y","pair","twin","good"]
abbrev ow:List S:=[.bq 3 (.sub aN bA),.bq 4 (.lst [(.bp (bw dP 0) 10 []),(.call .list [(bw dP 1)])]),.bq 5 (bD 818 [fB]),.expr (bD 811 [fB,(.bin .Mod dB (ek 4)),(.bin .FloorDiv dB (ek 4))]),.bq 5 (.and [fG,(bD 832 [fB]),(bD 818 [dP])]),.expr (bD 811 [dP,(.bin .Mod (.bin .FloorDiv dB (ek 4)) (ek 4)),(.bin .FloorDiv dB (ek 16))]),.hK aN bA fB,dj (.and [fG,(bD 832 [dP]),(bD 832 [fB])])]
def qH:dH:=nl ["g","y","f","q","old"]
abbrev lR:List S:=[.bq 2 (.bin .Mod bA (ek 10)),.bq 3 (.bin .FloorDiv bA (ek 10)),.dm (.cmp .Eq dB (ek 8)) [.hK aN (ek 2) (.not (bw aN 2)),.cD (bw aN 0) 18 (bw aN 2)] [.dm (.cmp .Eq dB (ek 9)) [.hK aN (ek 5) (bD 790 [(bw aN 5),dP]),.cD (bw aN 0) 20 (bw aN 5)] [.bq 4 (.sub (bw aN 1) dB),.expr (bD 885 [aN,dB,(bD 757 [dP])]),.dm (.not (bD 844 [(ek 2),(bw aN 0)])) [dj (.cst (.bool false))] [],.dm (.cmp .Eq dB (ek 0)) [.expr (bD 885 [aN,dB,(.bin .Mod (.bin .Add (.bin .Add fB (ek 1)) (.bin .Mod dP (ek 20))) (ek 21))])] [.expr (bD 885 [aN,dB,(bD 783 [fB,dP])])]]],dj (bD 878 [aN])]
def kV:dH:=nl ["g","pair","y","at"]
abbrev iA:List S:=[.dm (.or [(.cmp .Eq (.call .len [(bw aN 3)]) (ek 0)),(.and [(.cmp .Eq (.bin .Mod dB (ek 2)) (ek 0)),(.cmp .Lt (.call .len [(bw aN 3)]) (ek 4))])]) [.expr (.bp (.attr (bw aN 0) 15) 0 [(bw bA 0)]),.expr (.bp (bw aN 3) 0 [bA])] [.bq 3 (.bin .Mod (.bin .FloorDiv dB (ek 2)) (.call .len [(bw aN 3)])),.expr (.bp (.attr (bw aN 0) 15) 1 [dP]),.expr (.bp (bw aN 3) 1 [dP])],dj (bD 878 [aN])]
def jZ:dH:=nl ["g","y","f","q","s"]
abbrev g_:List S:=[.bq 2 (.bin .Mod bA (ek 5)),.bq 3 (.bin .FloorDiv bA (ek 5)),.bq 4 (bw aN 4),.dm (.qG fB false) [.expr (bD 892 [aN,(.lst [(bD 750 [dP]),(bD 750 [(.bin .FloorDiv dP (ek 3))]),(.lst [(.bin .Add (ek 1) (.bin .Mod dP (ek 200)))]),(.cmp .Eq (.bin .Mod dP (ek 2)) (ek 0)),(bD 764 [dP])])])] [.dm (.cmp .Eq dB (ek 0)) [.hK fB (ek 0) (bD 783 [(bw fB 0),dP]),.cD (.attr (bw aN 0) 17) 1 (bw fB 0)] [.dm (.cmp .Eq dB (ek 1)) [.hK fB (ek 4) (bD 790 [(bw fB 4),dP]),.cD (.attr (bw aN 0) 17) 3 (bw fB 4)] [.dm (.cmp .Eq dB (ek 2)) [.expr (.bp (bw fB 2) 0 [(.bin .Add (.bin .Add (.sub (bw fB 2) (.bin .Sub (.call .len [(bw fB 2)]) (ek 1))) (ek 1)) (.bin .Mod dP (ek 200)))]),.expr (.bp (.attr (.attr (.attr (bw aN 0) 17) 11) 6) 0 [(.sub (bw fB 2) (.bin .Sub (.call .len [(bw fB 2)]) (ek 1)))])] [.dm (.cmp .Eq dB (ek 3)) [.hK fB (ek 3) (.not (bw fB 3)),.cD (.attr (.attr (bw aN 0) 17) 11) 10 (bw fB 3)] [.hK aN (ek 4) (.cst .none),.cD (bw aN 0) 17 (.cst .none)]]]]],dj (bD 878 [aN])]
def i6:dH:=nl ["k","y","f","q","old","good"]
abbrev fW:List S:=[.bq 2 (.bin .Mod bA (ek 6)),.bq 3 (.bin .FloorDiv bA (ek 6)),.bq 4 (.sub (bw aN 1) dB),.dm (.cmp .Lt dB (ek 3)) [.expr (bD 899 [aN,dB,(bD 757 [dP])]),.bq 5 (bD 920 [(bw aN 0)]),.dm (.cmp .Eq dB (ek 0)) [.expr (bD 899 [aN,dB,(.bin .Add (ek 7) (.bin .Mod dP (ek 300)))]),.bq 5 (.and [fG,(bD 920 [(bw aN 0)])]),.expr (bD 899 [aN,dB,(.bin .Mod (.bin .Add (.bin .Add fB (ek 1)) (.bin .Mod dP (ek 6))) (ek 7))])] [.expr (bD 899 [aN,dB,(bD 783 [fB,dP])])],.dm (.not fG) [dj (.cst (.bool false))] []] [.dm (.cmp .Lt dB (ek 5)) [.expr (bD 899 [aN,dB,(bD 790 [fB,dP])])] [.dm (.qG fB false) [.expr (bD 899 [aN,dB,(bD 764 [dP])])] [.expr (bD 899 [aN,dB,(.cst .none)])]]],.dm (.not (bD 913 [aN])) [dj (.cst (.bool false))] [],.dm (.cmp .Eq (.bin .Mod dP (ek 2)) (ek 0)) [.hK aN (ek 0) (bD 652 [(.bp (bw aN 0) 13 [])])] [],dj (.cst (.bool true))]
def wi:dH:=nl ["w","y","part"]
abbrev ql:List S:=[.dm (.cmp .NotEq (.bp (bw aN 0) 9 []) (.tup [(bw aN 1),(.call .tuple [(.comp (.call .tuple [(.loc 1000)]) (bw aN 2) none)]),(.cst .none)])) [dj (.cst (.bool false))] [],.bq 2 (.bp (bw aN 0) 17 [(bw aN 1),(.bin .Add (bw aN 1) (.call .len [(bw aN 2)]))]),.dm (.cmp .NotEq (.comp (.bp (.loc 1000) 12 []) dB none) (.comp (.call .len [(bD 797 [(.loc 1000)])]) (bw aN 2) none)) [dj (.cst (.bool false))] [],dj (bD 837 [dB,(bw aN 2),bA])]
def mO:dH:=nl ["w","pool","j","y","at","fresh","i","pair","twin","rows","gone"]
abbrev jk:List S:=[.bq 4 (.bin .Add (.bin .Sub (bw aN 1) (ek 1)) (.bin .Mod dP (.bin .Add (.call .len [(bw aN 2)]) (ek 2)))),.bq 5 (.lst []),.forR 6 none (.bin .Add (ek 1) (.bin .Mod (.bin .FloorDiv dP (ek 7)) (ek 2))) [.bq 7 (.sub bA (.bin .Mod (.bin .Add dB jS) (.call .len [bA]))),.bq 8 (.lst [(.bp (bw AZ 0) 10 []),(.call .list [(bw AZ 1)])]),.dm (.not (bD 818 [Dr])) [dj (.cst (.bool false))] [],.expr (bD 804 [Dr,(ek 1),(.bin .Add fB jS)]),.expr (bD 811 [Dr,(ek 0),(.bin .Add dP (.bin .Mult (ek 5) jS))]),.expr (.bp fG 0 [Dr])],.expr (.bp (bw aN 0) 16 [(.comp (bw (.loc 1000) 0) fG none)]),.bq 9 (.comp (bw (.loc 1000) 1) fG none),.dm (.cmp .LtE fB (bw aN 1)) [.hK aN (ek 1) fB,.hK aN (ek 2) w_] [.hK aN (ek 2) (.bin .Add (.A0 (bw aN 2) none (some (.bin .Sub fB (bw aN 1)))) w_)],.dm (.not (bD 972 [aN,(.bin .FloorDiv dP (ek 14))])) [dj (.cst (.bool false))] [],.dm (.cmp .Gt (.bin .Mod (.bin .FloorDiv dP (ek 14)) (ek 3)) (ek 0)) [dj (.cst (.bool true))] [],.bq 10 (.lst [(bw (.bp (bw aN 0) 17 [fB,(.bin .Add fB (ek 1))]) 0),(.call .list [(bw w_ 0)])]),.expr (.bp (bw aN 0) 15 [fB,(bw (bw w_ 0) 0)]),.hK aN (ek 2) (.A0 (bw aN 2) (some (.bin .Sub (.bin .Add fB (ek 1)) (bw aN 1))) none),.hK aN (ek 1) (.bin .Add fB (ek 1)),.expr (bD 811 [Ei,(.bin .Mod (.bin .FloorDiv dP (ek 42)) (ek 4)),(.bin .FloorDiv dP (ek 168))]),dj (.and [(bD 832 [Ei]),(bD 972 [aN,(.bin .FloorDiv dP (ek 42))])])]
noncomputable def lY:dH:=[("g",.cell,0),("y",.loc,1),("other",.cell,2),("pairs",.loc,3),("s",.loc,4),("h",.loc,5),("i",.loc,6)]
abbrev iP:List S:=[.dm (.and [(.cmp .Eq (.bin .Mod bA (ek 2)) (ek 0)),(bD 864 [aN])]) [.bq 2 (bD 596 [(bD 589 [(bw aN 0)])])] [.bq 2 (.bp (bw aN 0) 10 [])],.dm (.cmp .NotEq (.call .len [(.attr dB 15)]) (.call .len [(bw aN 3)])) [dj (.cst (.bool false))] [],.bq 3 (.j6 (.lst [(.sub (.attr dB 15) (.loc 1000)),(.call .list [(bw (.sub (bw aN 3) (.loc 1000)) 1)])]) (.call .len [(bw aN 3)])),.bq 4 (.cst .none),.dm (.qG (bw aN 4) true) [.bq 4 (.lst [(bw (bw aN 4) 0),(bw (bw aN 4) 1),(.call .list [(bw (bw aN 4) 2)]),(bw (bw aN 4) 3),(bw (bw aN 4) 4)])] [],.bq 5 (.lst [dB,(.call .list [(bw aN 1)]),(bw aN 2),dP,fB,(bw aN 5)]),.expr (bD 885 [aN,(ek 5),(bD 783 [(bw (bw aN 1) 5),(.bin .FloorDiv bA (ek 2))])]),.dm (.cmp .Gt (.call .len [(bw aN 3)]) (ek 0)) [.expr (bD 811 [(bw (bw aN 3) 0),(ek 3),(.bin .FloorDiv bA (ek 3))])] [],.dm (.or [(.not (bD 878 [fG])),(.cmp .NotEq (bD 589 [(bw aN 0)]) (bD 854 [aN]))]) [dj (.cst (.bool false))] [],.expr (bD 885 [fG,(ek 6),(bD 783 [(bw (bw fG 1) 6),(.bin .FloorDiv bA (ek 5))])]),.dm (.cmp .Gt (.call .len [dP]) (ek 0)) [.expr (bD 811 [(bw dP 0),(ek 0),(.bin .FloorDiv bA (ek 6))])] [],.dm (.or [(.not (bD 878 [fG])),(.cmp .NotEq (bD 589 [(bw aN 0)]) (bD 854 [aN]))]) [dj (.cst (.bool false))] [],.forR 6 none (ek 6) [.hK aN jS (.sub fG jS)],dj (.cst (.bool true))]
def yC:dH:=nl ["act","pool","j","g","k","w","q"]
abbrev sN:List S:=[.dm (.cmp .Eq aN (ek 0)) [dj (bD 925 [bA,dB,jS])] [],.dm (.cmp .Eq aN (ek 1)) [dj (bD 932 [bA,dB,jS])] [],.dm (.cmp .Eq aN (ek 2)) [dj (bD 939 [bA,dB,jS])] [],.dm (.cmp .Eq aN (ek 3)) [dj (bD 946 [dP,jS])] [],.dm (.cmp .Eq aN (ek 4)) [dj (bD 953 [dP,(.sub bA dB),jS])] [],.dm (.cmp .Eq aN (ek 5)) [dj (bD 960 [dP,jS])] [],.dm (.cmp .Eq aN (ek 6)) [dj (bD 967 [fB,jS])] [],.dm (.cmp .Eq aN (ek 7)) [dj (bD 977 [fG,bA,dB,jS])] [],dj (bD 982 [dP,jS])]
noncomputable def Qd:dH:=[("script",.loc,0),("nums",.loc,1),("head",.loc,2),("pool",.loc,3),("i",.loc,4),("y",.cell,5),("row",.loc,6),("numbers",.loc,7),("m",.loc,8),("g",.loc,9),("f",.loc,10),("k",.loc,11),("base",.loc,12),("w",.loc,13),("t",.loc,14),("z",.loc,15),("j",.loc,16),("pair",.loc,17)]
abbrev Ih:List S:=[.bq 1 (.comp (.bin .Mod (.loc 1000) (ek 999983)) .JO none),.dm (.cmp .Eq (.call .len [bA]) (ek 0)) [.bq 1 (.lst [(ek 0)])] [],.bq 2 (bD 743 [bA,(ek 0)]),.bq 3 (.lst []),.forR 4 none (.sub (.tup [(ek 3),(ek 1),(ek 2),(ek 4),(ek 5)]) (.bin .Mod dB (ek 5))) [.bq 5 (bD 743 [bA,(.bin .Add (ek 1) fB)]),.bq 6 (.lst [(bD 750 [fG]),(bD 750 [(.bin .FloorDiv fG (ek 22))]),(.bin .Mult (.bin .Mod (.bin .FloorDiv fG (ek 3)) (ek 2)) (ek 2)),(bD 764 [(.bin .FloorDiv fG (ek 5))])]),.expr (.bp dP 0 [(.lst [(.call (.cls 407 376) [(bw jS 0),(bw jS 1),(bw jS 2),(bw jS 3)]),jS])])],.bq 5 (bD 743 [bA,(ek 6)]),.bq 7 (.bin .Add (.lst [(.bin .Mod (.bin .FloorDiv dB (ek 5)) (ek 21))]) (.j6 (bD 750 [(.bin .FloorDiv fG (.bin .Pow (ek 3) (.loc 1000)))]) (ek 7))),.bq 8 (.call (.cls 578 565) [(bw AZ 0),(bw AZ 1),(bw AZ 2),(bw AZ 3)]),.bq 9 (.lst [Dr,AZ,(.cmp .Eq (.bin .Mod fG (ek 2)) (ek 1)),(.A0 dP none (some (.sub (.tup [(ek 2),(ek 1),(ek 3),(ek 0)]) (.bin .Mod fG (ek 4))))),(.cst .none),(bD 764 [(.bin .FloorDiv fG (ek 9))])]),.forR 10 (some (ek 4)) (ek 8) [.expr (bD 885 [w_,Ei,(.sub AZ Ei)])],.cD Dr 15 (.comp (bw (.loc 1000) 0) (bw w_ 3) none),.cD Dr 18 (bw w_ 2),.cD Dr 20 (bw w_ 5),.dm (.cmp .Lt (.bin .Mod (.bin .FloorDiv dB (ek 3)) (ek 4)) (ek 3)) [.expr (bD 892 [w_,(.lst [(bD 750 [(.bin .FloorDiv fG (ek 5))]),(bD 750 [(.bin .FloorDiv fG (ek 7))]),(.lst [(.bin .Add (ek 1) (.bin .Mod fG (ek 5)))]),(.cmp .Eq (.bin .Mod fG (ek 3)) (ek 0)),(bD 764 [(.bin .FloorDiv fG (ek 11))])])])] [],.bq 5 (bD 743 [bA,(ek 7)]),.bq 6 (.lst [(.bin .Mod fG (ek 7)),(bD 750 [(.bin .FloorDiv fG (ek 7))]),(bD 750 [(.bin .FloorDiv fG (ek 77))]),(bD 764 [(.bin .FloorDiv fG (ek 3))]),(bD 764 [(.bin .FloorDiv fG (ek 13))]),(.cst .none)]),.dm (.cmp .Eq (.bin .Mod fG (ek 2)) (ek 1)) [.hK jS (ek 5) (bD 764 [(.bin .FloorDiv fG (ek 17))])] [],.bq 11 (.lst [(.call (.cls 627 610) [(bw jS 0),(bw jS 1),(bw jS 2),(bw jS 3),(bw jS 4),(bw jS 5)]),jS]),.bq 12 (.bin .Sub (.bin .Pow (ek 128) (.bin .Add (ek 1) (.bin .Mod dB (ek 8)))) (ek 1)),.bq 13 (.lst [(.call (.cls 732 666) [IQ]),IQ,(.lst [])]),.dm (.cmp .Gt (.call .len [(.comp (.loc 1000) dP (some (.not (bD 818 [(.loc 1000)]))))]) (ek 0)) [dj (.cst (.bool false))] [],.dm (.or [(.cmp .NotEq (bD 589 [Dr]) (bD 854 [w_])),(.cmp .NotEq (.bp (bw Bi 0) 13 []) (bD 906 [jS]))]) [dj (.cst (.bool false))] [],.forR 14 none (.bin .Add (ek 3) (.call .min [(ek 5),(.bin .FloorDiv (.call .len [bA]) (ek 4))])) [.bq 5 (bD 743 [bA,(.bin .Add (ek 8) (.bin .Mult (ek 2) (.loc 14)))]),.bq 15 (bD 743 [bA,(.bin .Add (ek 9) (.bin .Mult (ek 2) (.loc 14)))]),.bq 16 (.bin .Mod fG (.call .len [dP])),.expr (bD 811 [(.sub dP (.loc 16)),(.bin .Mod (.bin .FloorDiv fG (ek 5)) (ek 4)),(.bin .FloorDiv fG (ek 20))]),.dm (.not (bD 818 [(.sub dP (.loc 16))])) [dj (.cst (.bool false))] [],.dm (.not (bD 989 [(.bin .Mod (.loc 15) (ek 9)),dP,(.loc 16),w_,Bi,OZ,(.bin .FloorDiv (.loc 15) (ek 9))])) [dj (.cst (.bool false))] []],.forR 4 none (.call .len [dP]) [.expr (bD 811 [(.sub dP fB),(ek 0),(.bin .Add dB (.bin .Mult (ek 3) fB))]),.dm (.not (bD 818 [(.sub dP fB)])) [dj (.cst (.bool false))] [],.expr (bD 804 [(.sub dP fB),(ek 1),(.bin .Add IQ fB)]),.dm (.not (bD 832 [(.sub dP fB)])) [dj (.cst (.bool false))] []],.q7 17 (bw w_ 3) [.dm (.cmp .NotEq (bw (bw (.loc 17) 1) 2) (ek 2)) [.expr (bD 804 [(.loc 17),(ek 2),(ek 0)])] []],.expr (bD 885 [w_,(ek 6),(bD 783 [(bw (bw w_ 1) 6),dB])]),.expr (bD 899 [Bi,(ek 2),(bD 783 [(bw (bw Bi 1) 2),dB])]),.dm (.or [(.not (bD 878 [w_])),(.not (bD 913 [Bi])),(.not (bD 972 [OZ,dB]))]) [dj (.cst (.bool false))] [],.forR 4 none (.call .len [dP]) [.expr (bD 804 [(.sub dP fB),(ek 2),(bD 750 [(.bin .Add (.bin .Add dB (ek 2)) (.bin .Mult (ek 3) fB))])]),.dm (.not (bD 818 [(.sub dP fB)])) [dj (.cst (.bool false))] []],dj (bD 837 [(.comp (bw (.loc 1000) 0) dP none),(.comp (bw (.loc 1000) 1) dP none),(.bin .FloorDiv dB (ek 5))])]
noncomputable def Q0:List (String×GE):=[("_wall",.call (.fn 21)),("KeepError",.exc 31),("StoreError",.exc 44),("Corrupt",.exc 56),("ShortOctets",.exc 68),("BadOption",.exc 80),("RaftError",.exc 92),("LogPanic",.exc 104),("ServeError",.exc 116),("BadCommand",.exc 128),("MAX_32",.int 4294967295),("MAX_64",.int 18446744073709551615),("write_groups",.call (.fn 137)),("read_groups",.call (.fn 144)),("put_varint",.call (.fn 151)),("read_varint",.call (.fn 158)),("put_varint32",.call (.fn 165)),("read_varint32",.call (.fn 172)),("varint_length",.call (.fn 179)),("read_lengthed",.call (.fn 186)),("Cursor",.call (.cls 267 201)),("Sink",.call (.cls 344 285)),("MSG_PIECE",.int 20),("ENTRY_NORMAL",.int 0),("ENTRY_CONF",.int 2),("rising",.call (.fn 355)),("take_count",.call (.fn 362)),("Entry",.call (.cls 407 376)),("encode_entry",.call (.fn 418)),("decode_entry",.call (.fn 425)),("limit_size",.call (.fn 432)),("ConfState",.call (.cls 463 446)),("put_ids",.call (.fn 474)),("take_ids",.call (.fn 481)),("encode_conf",.call (.fn 488)),("decode_conf",.call (.fn 495)),("Snapshot",.call (.cls 533 509)),("encode_snapshot",.call (.fn 544)),("decode_snapshot",.call (.fn 551)),("Message",.call (.cls 578 565)),("encode_message",.call (.fn 589)),("decode_message",.call (.fn 596)),("CMD_NONE",.int 0),("CMD_CLOSE",.int 6),("Command",.call (.cls 627 610)),("put_maybe",.call (.fn 638)),("take_maybe",.call (.fn 645)),("decode_command",.call (.fn 652)),("Unstable",.call (.cls 732 666)),("_law_draw",.call (.fn 743)),("_law_wide",.call (.fn 750)),("_law_beyond",.call (.fn 757)),("_law_octs",.call (.fn 764)),("_law_var",.call (.fn 769)),("_law_text",.call (.fn 776)),("_law_other",.call (.fn 783)),("_law_other_octs",.call (.fn 790)),("_law_entry",.call (.fn 797)),("_law_put",.call (.fn 804)),("_law_turn",.call (.fn 811)),("_law_weighed",.call (.fn 818)),("_law_read_entry",.call (.fn 825)),("_law_told",.call (.fn 832)),("_law_paged",.call (.fn 837)),("_law_refuses",.call (.fn 844)),("_law_shot",.call (.fn 849)),("_law_message",.call (.fn 854)),("_law_message_row",.call (.fn 859)),("_law_readable",.call (.fn 864)),("_law_read_message",.call (.fn 871)),("_law_heard",.call (.fn 878)),("_law_say",.call (.fn 885)),("_law_shoot",.call (.fn 892)),("_law_tell",.call (.fn 899)),("_law_command",.call (.fn 906)),("_law_asked",.call (.fn 913)),("_law_command_refuses",.call (.fn 920)),("_law_out_of_reach",.call (.fn 925)),("_law_read_again",.call (.fn 932)),("_law_copied",.call (.fn 939)),("_law_reworded",.call (.fn 946)),("_law_more_or_fewer",.call (.fn 953)),("_law_shot_otherwise",.call (.fn 960)),("_law_ordered_otherwise",.call (.fn 967)),("_law_waits",.call (.fn 972)),("_law_put_to_wait",.call (.fn 977)),("_law_gone_on_with",.call (.fn 982)),("_law_deed",.call (.fn 989)),("law",.call (.fn 994)),("len",.call .len),("bytes",.call .bytes),("bytearray",.call .cZ),("sorted",.call .sorted),("tuple",.call .tuple),("list",.call .list),("sum",.call .sum),("min",.call .min),("range",.nk)]
noncomputable def QX:List (Addr×List (Nat×Addr)):=[(31,[]),(44,[]),(56,[]),(68,[]),(80,[]),(92,[]),(104,[]),(116,[]),(128,[]),(267,[(8,208),(4,215),(5,236),(6,250),(7,264)]),(344,[(4,292),(5,313),(6,327),(7,341)]),(407,[(9,383),(10,390),(11,397),(12,404)]),(463,[(9,453),(10,460)]),(533,[(9,516),(10,530)]),(578,[(9,570),(10,575)]),(627,[(9,617),(13,624)]),(732,[(14,687),(15,694),(16,715),(17,722),(9,729)])]
def aG:lS:=⟨λC m=>(QX.lookup C).bind (·.lookup m),λa b=>a==b,λx=>(Q0.map λp=>(eK p.1,p.2)).lookup x⟩
variable{af:eA}
variable{w:bY}
variable{K:fg}
variable{n:Nat}
variable{ρ:Loc}
variable{H:Hp}
variable{X:Addr->Hp->Prop}
variable{Q:V->Hp->Prop}
def Ext(H H':Hp):Prop:=∀a mo,H a=some mo->H' a=some mo
theorem Ext.refl:Ext H H:=λ_ _ h=>h
theorem Ext.trans(a:Ext H H')(b:Ext H' cI):Ext H cI:=λx m h=>b x m (a x m h)
theorem ne_sn(h:H a=some mo)(q:H b=none):a≠b:=λe=>by rw[e,q] at h;injection h
theorem bo(h:upd H a mo b=none):H b=none/\b≠a:=by
 by_cases e:b=a
 ·subst e;rw[cY] at h;injection h
 ·rw[dp _ _ e] at h;exact⟨h,e⟩
theorem Ext.fresh(x:Ext H H')(h:H a=none):Ext H (upd H' a mo):=λb m q=>by
 erw[aj (dp _ _ (ne_sn q h)),<-x b m q]
theorem ae(n:a≠b)(h:H a=some m):upd H b mo a=some m:=(dp _ _ n).trans h
theorem aY.up(l:n<=m)(h:aY af w K n f args H Q X):aY af w K m f args H Q X:=
 λB g os e A s i d a b c=>h B g os e A s i ⟨d.handled,d.frames,aH (cV (aP 4 l) _) d.depth,aH (cV (aP 100 l) _) d.units⟩ a b c
section
variable{ms:List S}{Q:Fl->Loc->Hp->Prop}
theorem Zk(h:dk af w K aG n e ρ H (λ_ a=>bO af w K aG n ms ρ a Q X) X):bO af w K aG n (.expr e::ms) ρ H Q X:=h
theorem Zg(h:dk af w K aG n e ρ H (λv a=>bO af w K aG n ms (upd ρ i v) a Q X) X):bO af w K aG n (.bq i e::ms) ρ H Q X:=h
theorem Zu(h:dk af w K aG n e ρ H (λv b=>dk af w K aG n o ρ b (λx c=>kX x k v c λa=>bO af w K aG n ms ρ a Q X) X) X):bO af w K aG n (.cD o k e::ms) ρ H Q X:=h
theorem ZK(h:dk af w K aG n e ρ H (λv d=>dk af w K aG n o ρ d (λx c=>dk af w K aG n i ρ c (λj b=>vR x j v b λa=>bO af w K aG n ms ρ a Q X) X) X) X):bO af w K aG n (.hK o i e::ms) ρ H Q X:=h
theorem Zaw(h:dk af w K aG n e ρ H (λv a=>∃vs,v=.tup vs/\vs.length=is.length/\is.length<=8/\bO af w K aG n ms (Dg is vs ρ) a Q X) X):bO af w K aG n (.zB is e::ms) ρ H Q X:=h
theorem Ae(h:∃u,ρ i=some u/\dk af w K aG n e ρ H (λv d=>∃a b,u=.int a/\v=.int b/\kv op u v d λr c=>bO af w K aG n ms (upd ρ i r) c Q X) X):bO af w K aG n (.pj i op e::ms) ρ H Q X:=h
theorem Zt(h:dk af w K aG n e ρ H (λv a=>Q (.ret v) ρ a) X):bO af w K aG n (dj e::ms) ρ H Q X:=h
theorem ZZ(h:dk af w K aG n e ρ H (λv a=>v=.text/\X C a) X):bO af w K aG n (.raise C e::ms) ρ H Q X:=h
theorem Zay(h:Q .brk ρ H):bO af w K aG n (.brk::ms) ρ H Q X:=h
theorem Ze(h:Q .next ρ H):bO af w K aG n [] ρ H Q X:=h
end
def h_(af:eA)(w:bY)(K:fg)(n:Nat)(ms:List S)(Q:Fl->Loc->Hp->Prop)(X:Addr->Hp->Prop)(fl:Fl)(ρ:Loc)(H:Hp):Prop:=match fl with
 | .next=>bO af w K aG n ms ρ H Q X
 |fl=>Q fl ρ H
theorem Zp{A B:Prop}(h:A):if true=true then A else B:=h
theorem Zi{A B:Prop}(h:B):if false=true then A else B:=h
section
variable{ms:List S}{Q:Fl->Loc->Hp->Prop}
theorem Zh(h:tw af w K aG n t ρ H (λc d=>if c=true then bO af w K aG n a ρ d (h_ af w K n ms Q X) X else bO af w K aG n b ρ d (h_ af w K n ms Q X) X) X):bO af w K aG n (.dm t a b::ms) ρ H Q X:=h
theorem Zd(h:bO af w K aG n ms ρ H Q X):h_ af w K n ms Q X .next ρ H:=h
theorem Z9(h:Q (.ret v) ρ H):h_ af w K n ms Q X (.ret v) ρ H:=h
theorem Zat(h:Q .brk ρ H):h_ af w K n ms Q X .brk ρ H:=h
end
theorem ZA(h:Q v H):dk af w K aG n (.cst v) ρ H Q X:=h
theorem Zc(e:ρ i=some v)(h:Q v H):dk af w K aG n (.loc i) ρ H Q X:=zq e h
theorem Zar(h:dk af w K aG n e ρ H (λv a=>fJ v a λb=>Q (.bool (!b)) a) X):dk af w K aG n (.not e) ρ H Q X:=h
theorem ZC(h:dk af w K aG n a ρ H (λx d=>dk af w K aG n b ρ d (λy c=>kv op x y c Q) X) X):dk af w K aG n (.bin op a b) ρ H Q X:=h
theorem Zac(h:dk af w K aG n a ρ H (λx d=>dk af w K aG n b ρ d (λy c=>jF op x y c λt=>Q (.bool t) c) X) X):dk af w K aG n (.cmp op a b) ρ H Q X:=h
theorem Zad(h:dk af w K aG n e ρ H (λv a=>∃t,isNone v=some t/\Q (.bool (t !=neg)) a) X):dk af w K aG n (.qG e neg) ρ H Q X:=h
theorem Z4(h:dk af w K aG n e ρ H (λv a=>yv v k a λu=>Q u a) X):dk af w K aG n (.attr e k) ρ H Q X:=h
theorem Z7(h:dk af w K aG n e ρ H (λv a=>dk af w K aG n i ρ a (λj c=>AR v j c λu=>Q u c) X) X):dk af w K aG n (.sub e i) ρ H Q X:=h
theorem Z8{lo c:Option E}(h:dk af w K aG n e ρ H (λv g=>QG af w K aG n lo ρ g (λa d=>QG af w K aG n c ρ d (λb f=>ND v a b f Q) X) X) X):dk af w K aG n (.A0 e lo c) ρ H Q X:=h
theorem Zak(h:tw af w K aG n c ρ H (λt d=>if t=true then dk af w K aG n a ρ d Q X else dk af w K aG n b ρ d Q X) X):dk af w K aG n (.ite c a b) ρ H Q X:=h
theorem ZY(h:dk af w K aG n a ρ H (λv c=>fJ v c λt=>if t=true then dk af w K aG n b ρ c Q X else Q v c) X):dk af w K aG n (.and [a,b]) ρ H Q X:=h
theorem Zal(h:dk af w K aG n a ρ H (λv d=>fJ v d λt=>if t=true then dk af w K aG n (.and [b,c]) ρ d Q X else Q v d) X):dk af w K aG n (.and [a,b,c]) ρ H Q X:=h
theorem iX(l:dN es.length 100=true)(h:gY af w K aG n es ρ H (λvs a=>Q (.tup vs) a) X):dk af w K aG n (.tup es) ρ H Q X:=⟨aE l,h⟩
theorem eP(l:dN es.length 100=true)(h:gY af w K aG n es ρ H (λvs a=>∀c,a c=none->Q (.ref c) (upd a c (.list vs))) X):dk af w K aG n (.lst es) ρ H Q X:=⟨aE l,h⟩
theorem Zq(h:gY af w K aG n es ρ H (λvs a=>aY af w K n f vs a Q X) X):dk af w K aG n (.call (.fn f) es) ρ H Q X:=h
theorem ZQ(h:gY af w K aG n es ρ H (λvs b=>∀a,b a=none->aY af w K n f (.ref a::vs) (upd b a (.inst C [])) (λr c=>r=.none/\Q (.ref a) c) X) X):dk af w K aG n (.call (.cls C f) es) ρ H Q X:=h
theorem ZN(h:gY af w K aG n es ρ H (λvs a=>jG .len vs a Q) X):dk af w K aG n (.call .len es) ρ H Q X:=h
theorem ZX(h:gY af w K aG n es ρ H (λvs a=>jG .bytes vs a Q) X):dk af w K aG n (.call .bytes es) ρ H Q X:=h
theorem Ky(h:∀c,H c=none->Q (.ref c) (upd H c (.cZ []))):dk af w K aG n (.call .cZ []) ρ H Q X:=⟨rfl,h⟩
theorem Zap(h:gY af w K aG n es ρ H (λvs a=>jG .sorted vs a Q) X):dk af w K aG n (.call .sorted es) ρ H Q X:=h
theorem ZL(h:gY af w K aG n es ρ H (λvs a=>jG .tuple vs a Q) X):dk af w K aG n (.call .tuple es) ρ H Q X:=h
theorem Z6(h:gY af w K aG n es ρ H (λvs a=>jG .list vs a Q) X):dk af w K aG n (.call .list es) ρ H Q X:=h
theorem Zaq(h:gY af w K aG n es ρ H (λvs a=>jG .sum vs a Q) X):dk af w K aG n (.call .sum es) ρ H Q X:=h
theorem Zau(h:gY af w K aG n es ρ H (λvs a=>jG .min vs a Q) X):dk af w K aG n (.call .min es) ρ H Q X:=h
theorem Zm(h:dk af w K aG n e ρ H (λv b=>∃a,mk? v b=some a/\O3 aG a m=true/\gY af w K aG n es ρ b (λvs c=>mk? v c=some a/\jY af w K aG n v m vs c Q X) X) X):dk af w K aG n (.bp e m es) ρ H Q X:=h
section
variable{Q:List V->Hp->Prop}
theorem Zb(h:Q [] H):gY af w K aG n [] ρ H Q X:=h
theorem Za(h:dk af w K aG n e ρ H (λv a=>gY af w K aG n es ρ a (λvs c=>Q (v::vs) c) X) X):gY af w K aG n (e::es) ρ H Q X:=h
end
section
variable{Q:Bool->Hp->Prop}
theorem ZP(h:tw af w K aG n e ρ H (λb a=>Q (!b) a) X):tw af w K aG n (.not e) ρ H Q X:=h
theorem ZR(h:Cr af w K aG n true es ρ H Q X):tw af w K aG n (.and es) ρ H Q X:=h
theorem ZT(h:Cr af w K aG n false es ρ H Q X):tw af w K aG n (.or es) ρ H Q X:=h
theorem ZH(h:dk af w K aG n a ρ H (λx d=>dk af w K aG n b ρ d (λy c=>jF op x y c λt=>Q t c) X) X):tw af w K aG n (.cmp op a b) ρ H Q X:=h
theorem ZS(h:dk af w K aG n e ρ H (λv a=>∃t,isNone v=some t/\Q (t !=neg) a) X):tw af w K aG n (.qG e neg) ρ H Q X:=h
theorem Zaf(e:ρ i=some v)(h:fJ v H λb=>Q b H):tw af w K aG n (.loc i) ρ H Q X:=zq e h
theorem Zas(h:dk af w K aG n e ρ H (λv a=>dk af w K aG n i ρ a (λj c=>AR v j c λu=>fJ u c λb=>Q b c) X) X):tw af w K aG n (.sub e i) ρ H Q X:=h
theorem Zab(h:gY af w K aG n es ρ H (λvs a=>aY af w K n f vs a (λv c=>fJ v c λb=>Q b c) X) X):tw af w K aG n (.call (.fn f) es) ρ H Q X:=h
theorem Zav(h:dk af w K aG n e ρ H (λv d=>∃a,mk? v d=some a/\O3 aG a m=true/\gY af w K aG n es ρ d (λvs c=>mk? v c=some a/\jY af w K aG n v m vs c (λv c=>fJ v c λb=>Q b c) X) X) X):tw af w K aG n (.bp e m es) ρ H Q X:=h
theorem ZD(h:Q all H):Cr af w K aG n all [] ρ H Q X:=h
theorem Zn(h:tw af w K aG n e ρ H (λb a=>if b=all then Cr af w K aG n all es ρ a Q X else Q b a) X):Cr af w K aG n all (e::es) ρ H Q X:=h
end
section
variable{Q:Option Int->Hp->Prop}
theorem ZW(h:Q none H):QG af w K aG n none ρ H Q X:=h
theorem Z5(h:dk af w K aG n e ρ H (λv a=>∃k,v=.int k/\Q (some k) a) X):QG af w K aG n (some e) ρ H Q X:=h
end
theorem hY{Q:Int->Prop}(h:Q k):∃j,V.int k=.int j/\Q j:=⟨k,rfl,h⟩
theorem Zan{A B:Prop}(h:A):if true=true then A else B:=h
theorem Z0{A B:Prop}(h:B):if false=true then A else B:=h
theorem Z2{A B:Prop}(h:B):if true=false then A else B:=h
theorem ZM{A B:Prop}(h:A):if false=false then A else B:=h
section
variable{G:Bool->Prop}{a b:Int}
theorem fC(h1:a<b->G true)(h2:b<=a->G false):jF .Lt (.int a) (.int b) H G:=by
 show G (decide (a<b))
 by_cases q:a<b
 ·erw[aj (decide_eq_true q),<-h1 q]
 ·erw[aj (decide_eq_false q),<-h2 (gq.mp q)]
theorem DV(h1:a<=b->G true)(h2:b<a->G false):jF .LtE (.int a) (.int b) H G:=by
 show G (decide (a<=b))
 by_cases q:a<=b
 ·erw[aj (decide_eq_true q),<-h1 q]
 ·erw[aj (decide_eq_false q),<-h2 (o9.mp q)]
theorem j_(h1:b<a->G true)(h2:a<=b->G false):jF .Gt (.int a) (.int b) H G:=fC (H:=H) h1 h2
theorem nQ(h1:b<=a->G true)(h2:a<b->G false):jF .GtE (.int a) (.int b) H G:=DV (H:=H) h1 h2
theorem cq(h1:a=b->G true)(h2:a≠b->G false):jF .Eq (.int a) (.int b) H G:=by
 show G (a==b)
 by_cases q:a=b
 ·erw[aj (beq_iff_eq.mpr q),<-h1 q]
 ·erw[aj (beq_eq_false_iff_ne.mpr q),<-h2 q]
theorem d8(e:decide (a=b)=false)(h:G false):jF .Eq (.int a) (.int b) H G:=cq (λz=>absurd z (of_decide_eq_false e)) λ_=>h
theorem v7(h1:a=b->G false)(h2:a≠b->G true):jF .NotEq (.int a) (.int b) H G:=cq h1 h2
end
section
variable{Q:V->Prop}{a:Addr}{C:Addr}{fs:List (Nat×V)}{k:Nat}{v:V}{vs:List V}
theorem aO(h:H a=some (.inst C fs))(b:aB k 27=true)(c:Aw fs k=some v)(q:Q v):yv (.ref a) k H Q:=by
 exact Hl h ⟨aE b,v,c,q⟩
theorem bQ{Q:Hp->Prop}(h:H a=some (.inst C fs))(b:aB k 27=true)(hl:dN fs.length 100=true)(q:Q (upd H a (.inst C (xB fs k v)))):kX (.ref a) k v H Q:=by
 exact Hl h ⟨aE b,aE hl,q⟩
theorem oW{P:MK->Prop}(h:H a=some (.list vs))(q:P .list):∃b,mk? (.ref a) H=some b/\P b:=⟨_,by unfold mk?;dsimp only;erw[aj h];rfl,q⟩
theorem Rz{P:MK->Prop}(h:H a=some (.cZ b))(q:P .cZ):∃c,mk? (.ref a) H=some c/\P c:=⟨_,by unfold mk?;dsimp only;erw[aj h];rfl,q⟩
theorem fj{P:MK->Prop}(h:H a=some (.inst C fs))(q:P (.inst C)):∃b,mk? (.ref a) H=some b/\P b:=⟨_,by unfold mk?;dsimp only;erw[aj h];rfl,q⟩
theorem Iu{P:MK->Prop}(q:P .bytes):∃a,mk? (.bytes []) H=some a/\P a:=⟨_,rfl,q⟩
end
section
variable{a:Addr}{C:Addr}{fs:List (Nat×V)}{m:Nat}{v:V}{vs args:List V}
theorem qQ(h:H a=some (.list vs))(l:vs.length<=100000)(q:Q .none (upd H a (.list (vs++[v])))):mk? (.ref a) H=some .list/\jY af w K aG n (.ref a) 0 [v] H Q X:=by
 constructor
 ·unfold mk?;dsimp only;erw[aj h];rfl
 ·unfold jY;dsimp only;erw[aj h,<-⟨l,.inl ⟨rfl,_,rfl,q⟩⟩]
theorem Qw(h:H a=some (.list vs))(l:vs.length<=100000)(b:0<=i)(e:vs[i.toNat]?=some v)(q:Q v (upd H a (.list (vs.eraseIdx i.toNat)))):mk? (.ref a) H=some .list/\jY af w K aG n (.ref a) 1 [.int i] H Q X:=by
 constructor
 ·unfold mk?;dsimp only;erw[aj h];rfl
 ·unfold jY;dsimp only;erw[aj h,<-⟨l,.inr ⟨rfl,_,_,rfl,b,e,q⟩⟩]
theorem Aq(h:H a=some (.cZ b))(l:b.length<=100000)(d:0<=i)(c:i<256)(q:Q .none (upd H a (.cZ (b++[cM i.toNat])))):mk? (.ref a) H=some .cZ/\jY af w K aG n (.ref a) 0 [.int i] H Q X:=by
 constructor
 ·unfold mk?;dsimp only;erw[aj h];rfl
 ·unfold jY;dsimp only;erw[aj h,<-⟨l,.inl ⟨rfl,_,rfl,d,c,q⟩⟩]
theorem Gv(h:H a=some (.cZ b))(l:b.length<=100000)(d:c.length<=100000)(q:Q .none (upd H a (.cZ (b++c)))):mk? (.ref a) H=some .cZ/\jY af w K aG n (.ref a) 2 [.bytes c] H Q X:=by
 constructor
 ·unfold mk?;dsimp only;erw[aj h];rfl
 ·unfold jY;dsimp only;erw[aj h,<-⟨l,.inr ⟨rfl,_,rfl,d,q⟩⟩]
theorem bt(h:H a=some (.inst C fs))(e:aG.bp C m=some f)(q:aY af w K n f (.ref a::args) H Q X):mk? (.ref a) H=some (.inst C)/\jY af w K aG n (.ref a) m args H Q X:=by
 constructor
 ·unfold mk?;dsimp only;erw[aj h];rfl
 ·unfold jY;dsimp only;erw[aj h,<-⟨f,e,q⟩]
theorem LU(h:H a=some (.list vs))(e:qk vs=some b)(l:vs.length<=1000)(c:b.length<=100000)(q:Q (.bytes b) H):mk? (.bytes []) H=some .bytes/\jY af w K aG n (.bytes []) 3 [.ref a] H Q X:=by
 constructor
 ·rfl
 ·exact⟨rfl,rfl,gP h ⟨b,e,l,c,q⟩⟩
theorem dV(h:H a=some (.list vs))(l:vs.length<=100000)(q:Q (.int vs.length) H):jG .len [.ref a] H Q:=gP h ⟨l,q⟩
theorem eZ(l:b.length<=1000000)(q:Q (.int b.length) H):jG .len [.bytes b] H Q:=⟨l,q⟩
theorem vc(h:H a=some (.list vs))(e:kT vs=some l)(r:∀i∈l,0<=i/\i<256)(z:l.length<=1000)(q:Q (.bytes (toBytes l)) H):jG .bytes [.ref a] H Q:=by
 show(match H a with|some (.cZ b)=>b.length<=1000000/\Q (.bytes b) H|_=>jV H a λvs=>∃l,kT vs=some l/\(∀i∈l,0<=i/\i<256)/\l.length<=1000/\Q (.bytes (toBytes l)) H);erw[aj h,<-gP h ⟨l,e,r,z,q⟩]
theorem Mm(h:H a=some (.cZ b))(l:b.length<=1000000)(q:Q (.bytes b) H):jG .bytes [.ref a] H Q:=by
 show(match H a with|some (.cZ b)=>b.length<=1000000/\Q (.bytes b) H|_=>jV H a λvs=>∃l,kT vs=some l/\(∀i∈l,0<=i/\i<256)/\l.length<=1000/\Q (.bytes (toBytes l)) H);erw[aj h,<-⟨l,q⟩]
end
section
variable{a b:Int}{G:Bool->Prop}
theorem Zw(q:Q (.int (a+b)) H):kv .Add (.int a) (.int b) H Q:=q
theorem Z3(q:Q (.int (a-b)) H):kv .Sub (.int a) (.int b) H Q:=q
theorem Zam(q:Q (.int (gr a b)) H):kv .BitAnd (.int a) (.int b) H Q:=q
theorem Zax(q:Q (.int (jf a b)) H):kv .BitOr (.int a) (.int b) H Q:=q
theorem fH(l:x.length+y.length<=1000000)(q:Q (.bytes (x++y)) H):kv .Add (.bytes x) (.bytes y) H Q:=⟨l,q⟩
theorem Cw{xs ys:List V}(h1:H x=some (.list xs))(h2:H y=some (.list ys))(l:xs.length+ys.length<=100000)(q:∀c,H c=none->Q (.ref c) (upd H c (.list (xs++ys)))):kv .Add (.ref x) (.ref y) H Q:=by
 exact gP h1 (gP h2 ⟨l,q⟩)
theorem dI(h:aB 0 y=true)(q:Q (.int ((x%y:Nat):Int)) H):kv .Mod (.int (x:Int)) (.int (y:Int)) H Q:=by
 have h:=aE h;erw[<-⟨Tz h,?_⟩,aj (DA _ (dZ y)),<-q]
theorem dS(h:aB 0 y=true)(a:x<2^400)(b:dN y 1000000=true)(q:Q (.int ((x / y:Nat):Int)) H):kv .FloorDiv (.int (x:Int)) (.int (y:Int)) H Q:=by
 have h:=aE h;erw[<-⟨a,aM (aE b) (aZ (dc rfl) (d0 (dc rfl) (dc rfl):2^20<=2^400)),Tz h,?_⟩,aj (o_ _ (dZ y)),<-q]
theorem Zx{b:Bool}(q:G b):fJ (.bool b) H G:=q
theorem Fo(h:H x=some (.list vs))(l:vs.length<=100000)(q:G (!vs.isEmpty)):fJ (.ref x) H G:=gP h ⟨l,q⟩
theorem kY(e:isNone v=some t)(q:G t):∃t,isNone v=some t/\G t:=⟨t,e,q⟩
theorem aw(h:H x=some (.list vs))(l:vs.length<=100000)(e:KR vs i=some v)(q:P v):AR (.ref x) (.int i) H P:=gP h ⟨l,v,e,q⟩
theorem mj(l:x.length<=1000000)(a:0<=i)(e:x[i.toNat]?=some u)(q:P (.int u.toNat)):AR (.bytes x) (.int i) H P:=⟨l,a,u,e,q⟩
theorem Kr(l:vs.length<=100000)(a:0<=i)(e:vs[i.toNat]?=some v)(q:P v):AR (.tup vs) (.int i) H P:=⟨l,a,v,e,q⟩
theorem LF{lo h:Option Int}(h1:te lo)(h2:te h)(l:x.length<=1000000)(q:Q (.bytes (cut x lo h)) H):ND (.bytes x) lo h H Q:=⟨h1,h2,l,q⟩
theorem qh{lo a:Option Int}(h:H x=some (.list vs))(h1:te lo)(h2:te a)(l:vs.length<=100000)(q:∀c,H c=none->Q (.ref c) (upd H c (.list (cut vs lo a)))):ND (.ref x) lo a H Q:=by
 erw[<-⟨h1,h2,?_⟩,<-gP h ⟨l,q⟩]
theorem i_{i:Int}(h:H x=some (.list vs))(l:vs.length<=100000)(b:0<=i)(a:i<vs.length)(q:P (upd H x (.list (vs.set i.toNat v)))):vR (.ref x) (.int i) v H P:=by
 exact gP h ⟨l,b,a,q⟩
theorem gf(h:H x=some (.list vs))(l:vs.length<=1000)(q:Q (.tup vs) H):jG .tuple [.ref x] H Q:=gP h ⟨l,q⟩
theorem pI(h:H x=some (.list vs))(l:vs.length<=1000)(q:∀c,H c=none->Q (.ref c) (upd H c (.list vs))):jG .list [.ref x] H Q:=gP h ⟨l,q⟩
theorem Pq(h:H x=some (.list vs))(e:kT vs=some l)(s:l.Pairwise (· <=·))(z:l.length<64)(q:∀c,H c=none->Q (.ref c) (upd H c (.list vs))):jG .sorted [.ref x] H Q:=gP h ⟨l,e,s,z,q⟩
theorem Hv(h:H x=some (.list vs))(e:kT vs=some l)(z:l.length<=1000)(q:Q (.int l.sum) H):jG .sum [.ref x] H Q:=gP h ⟨l,e,z,q⟩
theorem Zao(q:Q (.int (min a b)) H):jG .min [.int a,.int b] H Q:=q
end
theorem u9(l:dN ps.length 8=true)(h:gY af w K aG n ps ρ H (λvs a=>(∀v∈vs,∃i,v=.int i/\big i)/\Q .text a) X):dk af w K aG n (.text ps) ρ H Q X:=⟨aE l,h⟩
theorem tx1{Q:Prop}(b:big i)(h:Q):(∀v∈[V.int i],∃i,v=.int i/\big i)/\Q:=by
 erw[<-⟨λv a=>?_,h⟩,aj (aR.mp a),<-⟨_,rfl,b⟩]
theorem tx2{Q:Prop}(b:big i)(c:big j)(h:Q):(∀v∈[V.int i,V.int j],∃i,v=.int i/\big i)/\Q:=by
 refine⟨λv hv=>?_,h⟩;rcases bE.mp hv with e|hv
 ·erw[aj e,<-⟨_,rfl,b⟩]
 ·erw[aj (aR.mp hv),<-⟨_,rfl,c⟩]
theorem vg{Q:Prop}(h:Q):a=a/\Q:=⟨rfl,h⟩
theorem bC{A P:MK->Prop}(h:H a=some (.inst C fs))(k:A (.inst C))(q:P (.inst C)):∃b,mk? (.ref a) H=some b/\A b/\P b:=fj h ⟨k,q⟩
theorem mh{A P:MK->Prop}(h:H a=some (.cZ b))(k:A .cZ)(q:P .cZ):∃c,mk? (.ref a) H=some c/\A c/\P c:=Rz h ⟨k,q⟩
theorem wD{A P:MK->Prop}(h:H a=some (.list b))(k:A .list)(q:P .list):∃c,mk? (.ref a) H=some c/\A c/\P c:=oW h ⟨k,q⟩
theorem zu{Q:Fl->Loc->Hp->Prop}(h1:ρ i=some u)(h:dk af w K aG n e ρ H (λv d=>∃a b,u=.int a/\v=.int b/\kv op u v d λr c=>bO af w K aG n ms (upd ρ i r) c Q X) X):bO af w K aG n (.pj i op e::ms) ρ H Q X:=⟨_,h1,h⟩
def q6(m:E)(ρ:Loc)(v:V):Prop:=match m with
 | .cst c=>c=v
 | .loc i=>ρ i=some v
 |_=>False
theorem HU(h:q6 m ρ v):dk af w K aG n m ρ H Q X ↔ Q v H:=by
 induction m using E.casesOn with
 |cst c=>have h:=h;subst h;exact Iff.rfl
 |loc i=>
  exact⟨λq=>by erw[ay (ze q),(u e q)];rw[h] at e;injection e with e;subst e;exact q,λq=>zq h q⟩
 |_=>exact h.elim
theorem fM(h:q6 m ρ v)(q:Q v H):dk af w K aG n m ρ H Q X:=(HU h).mpr q
theorem HO{Q:V->V->Hp->Prop}(h:q6 m ρ v):(λ(x:V) H=>dk af w K aG n m ρ H (Q x) X)=λx H=>Q x v H:=funext λx=>funext λH=>propext (HU h)
theorem Zs(h1:q6 a ρ u)(h2:q6 b ρ v)(q:kv op u v H Q):dk af w K aG n (.bin op a b) ρ H Q X:=ZC (fM h1 (fM h2 q))
theorem ZI(h1:q6 a ρ u)(q:dk af w K aG n b ρ H (λy c=>kv op u y c Q) X):dk af w K aG n (.bin op a b) ρ H Q X:=ZC (fM h1 q)
theorem Zv(h2:q6 b ρ v)(q:dk af w K aG n a ρ H (λx c=>kv op x v c Q) X):dk af w K aG n (.bin op a b) ρ H Q X:=by
 show dk af w K aG n a ρ H (λx c=>dk af w K aG n b ρ c (λy d=>kv op x y d Q) X) X;erw[aj (HO h2),<-q]
theorem Zaz(h1:q6 a ρ u)(h2:q6 b ρ v)(q:jF op u v H λt=>Q (.bool t) H):dk af w K aG n (.cmp op a b) ρ H Q X:=Zac (fM h1 (fM h2 q))
theorem Zai(h2:q6 b ρ v)(q:dk af w K aG n a ρ H (λx c=>jF op x v c λt=>Q (.bool t) c) X):dk af w K aG n (.cmp op a b) ρ H Q X:=by
 show dk af w K aG n a ρ H (λx c=>dk af w K aG n b ρ c (λy d=>jF op x y d λt=>Q (.bool t) d) X) X;erw[aj (HO h2),<-q]
theorem Zf(h1:q6 a ρ u)(h2:q6 b ρ v)(q:AR u v H λx=>Q x H):dk af w K aG n (.sub a b) ρ H Q X:=Z7 (fM h1 (fM h2 q))
theorem Zo(h2:q6 b ρ v)(q:dk af w K aG n a ρ H (λx c=>AR x v c λu=>Q u c) X):dk af w K aG n (.sub a b) ρ H Q X:=by
 show dk af w K aG n a ρ H (λx c=>dk af w K aG n b ρ c (λy d=>AR x y d λu=>Q u d) X) X;erw[aj (HO h2),<-q]
theorem Zl(h1:q6 o ρ u)(q:yv u k H λx=>Q x H):dk af w K aG n (.attr o k) ρ H Q X:=Z4 (fM h1 q)
theorem ZG(h1:q6 a ρ u)(q:jG .len [u] H Q):dk af w K aG n (.call .len [a]) ρ H Q X:=ZN (Za (fM h1 (Zb q)))
theorem Zz(h1:q6 a ρ u)(q:aY af w K n f [u] H Q X):dk af w K aG n (.call (.fn f) [a]) ρ H Q X:=Zq (Za (fM h1 (Zb q)))
theorem ZU(h1:q6 a ρ u)(h2:q6 b ρ v)(q:aY af w K n f [u,v] H Q X):dk af w K aG n (.call (.fn f) [a,b]) ρ H Q X:=Zq (Za (fM h1 (Za (fM h2 (Zb q)))))
theorem Zaj(h1:q6 a ρ u)(h2:q6 b ρ v)(h3:q6 c ρ x)(q:aY af w K n f [u,v,x] H Q X):dk af w K aG n (.call (.fn f) [a,b,c]) ρ H Q X:=Zq (Za (fM h1 (Za (fM h2 (Za (fM h3 (Zb q)))))))
section
variable{Q:List V->Hp->Prop}
theorem Zr(h1:q6 a ρ u)(q:gY af w K aG n es ρ H (λvs c=>Q (u::vs) c) X):gY af w K aG n (a::es) ρ H Q X:=Za (fM h1 q)
theorem ZF(h1:q6 a ρ u)(q:Q [u] H):gY af w K aG n [a] ρ H Q X:=Za (fM h1 (Zb q))
theorem ZE(h1:q6 a ρ u)(h2:q6 b ρ v)(q:Q [u,v] H):gY af w K aG n [a,b] ρ H Q X:=Za (fM h1 (Za (fM h2 (Zb q))))
theorem Zah(h1:q6 a ρ u)(h2:q6 b ρ v)(h3:q6 c ρ x)(h4:q6 d ρ y)(q:Q [u,v,x,y] H):gY af w K aG n [a,b,c,d] ρ H Q X:=Za (fM h1 (Za (fM h2 (Za (fM h3 (Za (fM h4 (Zb q))))))))
end
section
variable{Q:Bool->Hp->Prop}
theorem Zj(h1:q6 a ρ u)(h2:q6 b ρ v)(q:jF op u v H λt=>Q t H):tw af w K aG n (.cmp op a b) ρ H Q X:=ZH (fM h1 (fM h2 q))
theorem Zy(h2:q6 b ρ v)(q:dk af w K aG n a ρ H (λx c=>jF op x v c λt=>Q t c) X):tw af w K aG n (.cmp op a b) ρ H Q X:=by
 show dk af w K aG n a ρ H (λx c=>dk af w K aG n b ρ c (λy d=>jF op x y d λt=>Q t d) X) X;erw[aj (HO h2),<-q]
theorem Zaa(h1:q6 a ρ u)(q:aY af w K n f [u] H (λv c=>fJ v c λb=>Q b c) X):tw af w K aG n (.call (.fn f) [a]) ρ H Q X:=Zab (Za (fM h1 (Zb q)))
theorem abN(h1:q6 a ρ u)(h2:q6 b ρ v)(q:aY af w K n f [u,v] H (λv c=>fJ v c λb=>Q b c) X):tw af w K aG n (.call (.fn f) [a,b]) ρ H Q X:=Zab (Za (fM h1 (Za (fM h2 (Zb q)))))
end
section
variable{Q:Fl->Loc->Hp->Prop}{ms:List S}
theorem ZO(h1:q6 e ρ u)(q:Q (.ret u) ρ H):bO af w K aG n (dj e::ms) ρ H Q X:=Zt (fM h1 q)
theorem Z1(h1:q6 e ρ u)(q:bO af w K aG n ms (upd ρ i u) H Q X):bO af w K aG n (.bq i e::ms) ρ H Q X:=Zg (fM h1 q)
end
theorem z0(a b:Nat):gr (a:Int) (b:Int)=((a&&& b:Nat):Int):=by
 unfold gr;have h1:=decide_eq_true (dZ a);have h2:=decide_eq_true (dZ b);erw[aj h1,aj h2];rfl
theorem BS(a b:Nat):jf (a:Int) (b:Int)=((a|||b:Nat):Int):=by
 have n:∀x:Int,nJ (nJ x)=x:=λx=>by unfold nJ;exact da (gq.mp (λd=>ly (X5 _) [((yp cN (yn 1)),(.sub (.neg (.sub (.neg cN) (yn 1))) (yn 1)))] rt d)) (gq.mp (λc=>ly (X5 _) [((yp (.sub (.neg (.sub (.neg cN) (yn 1))) (yn 1)) (yn 1)),cN)] rt c))
 have f:∀x:Nat,decide (0<=nJ x)=false:=λx=>decide_eq_false (by unfold nJ;exact λe=>ly (X5 _) [((yn 0),cN),((yn 0),(.sub (.neg cN) (yn 1)))] rt ir e);unfold jf gr;erw[aj (f a),aj (f b)];dsimp only;rw[n,n,n,aL,aL]
noncomputable def RQ:Nat->Nat->List UInt8
 |0,n=>[cM n]
 |f+1,n=>if n<128 then[cM n] else cM (n%128+128)::RQ f (n / 128)
@[irreducible] def vr(n:Nat):List UInt8:=RQ n n
theorem Ap(h:n<128):∀f,RQ f n=[cM n]
 |0=>rfl
 |_+1=>if_pos h
theorem GK(h:128<=n):RQ (f+1) n=cM (n%128+128)::RQ f (n / 128):=if_neg (tN.mpr h)
theorem Rp:∀(f g n:Nat),n<=f->n<=g->RQ f n=RQ g n:=λf=>by
 induction f with
 |zero=>intro g n h _;refine' aj (Nat.le_zero.mp h) ?_;rw[Ap (dc rfl),Ap (dc rfl)]
 |succ f i=>
  intro g n h1 h2
  by_cases q:n<128
  ·rw[Ap q,Ap q]
  ·have q:=bW q
   induction g using Nat.casesOn with
   |zero=>lia
   |succ g=>refine' aj (GK q) ?_;refine' aj (GK q) ?_;refine' aj (i g (n / 128) (V_ h1) (V_ h2)) ?_;rfl
theorem qP(h:n<128):vr n=[cM n]:=by unfold vr;exact Ap h n
theorem AK(h:128<=n):vr n=cM (n%128+128)::vr (n / 128):=by
 unfold vr
 induction n using Nat.casesOn with
 |zero=>lia
 |succ n=>exact(GK h).trans (congrArg _ (Rp _ _ _ (iJ (Nat.div_lt_self spo (dc rfl))) qt))
theorem Ls(n:Nat):(n&&& 127) |||128=n%128+128:=by
 erw[aj (show 127=2^7-1 from rfl)];rewrite[A5,Nat.or_comm,Nat.add_comm];have h:=Dq (show n%2^7<2^7 from fP _ (Nat.two_pow_pos 7)) 1;exact h.symm
theorem fN:∀(k n:Nat),n<128^(k+1)->(vr n).length<=k+1
 |0,n,h=>by refine' aj (qP (by simpa using h)) ?_;exact qt
 |k+1,n,h=>by
  by_cases q:n<128
  ·erw[aj (qP q),<-rD (hX _)]
  ·erw[aj (AK (bW q)),aj aU,<-rD (fN k (n / 128) (by rw[lT (dc rfl),<-kS];exact h))]
theorem vw(n:Nat):1<=(vr n).length:=by
 by_cases q:n<128
 ·erw[aj (qP q),<-qt]
 ·erw[aj (AK (bW q)),aj aU,<-rD (hX _)]
def Bd(af:eA)(w:bY)(K:fg)(f:Addr)(k:Nat)(ext:List V)(ms:List S):Prop:=
 ∀n args H (Q:V->Hp->Prop) (X:Addr->Hp->Prop),args.length+ext.length=k->bO af w K aG n ms (sr (args++ext)) H (λfl _ H'=>match fl with| .ret v=>Q v H'| .next=>Q .none H'| .brk=>False) X->aY af w K (n+1) f args H Q X
def zI(Q:V->Hp->Prop)(v:V)(H:Hp):Prop:=∃H',Ext H' H/\Q v H'
def dE(Q:V->Hp->Prop)(fl:Fl)(_:Loc)(H:Hp):Prop:=match fl with
 | .ret v=>zI Q v H
 | .next=>zI Q .none H
 | .brk=>False
def cG(X:Addr->Hp->Prop)(C:Addr)(H:Hp):Prop:=∃H',Ext H' H/\X C H'
structure Rd(af:eA)(w:bY)(K:fg):Prop where
 wJ:Bd af w K 137 2 [] mH
 yu:Bd af w K 144 4 [] oV
 zY:Bd af w K 151 1 [] pT
 yd:Bd af w K 158 2 [] oD
 wX:Bd af w K 165 1 [] mK
 uK:Bd af w K 172 2 [] lL
 ur:Bd af w K 179 1 [] lD
 uA:Bd af w K 186 2 [] lJ
 yt:Bd af w K 201 3 [.int 0] i7
 yD:Bd af w K 208 1 [] oU
 uu:Bd af w K 215 1 [] lQ
 qu:Bd af w K 236 1 [] jC
 yw:Bd af w K 250 1 [] oH
 yP:Bd af w K 264 1 [] oN
 BC:Bd af w K 285 1 [] rL
 yR:Bd af w K 292 2 [] oR
 uN:Bd af w K 313 2 [] lN
 BN:Bd af w K 327 2 [] rZ
 BB:Bd af w K 341 1 [] s8
 rising:Bd af w K 355 1 [] Ag
 zN:Bd af w K 362 1 [] pR
 Ai:Bd af w K 376 5 [] qc
 BX:Bd af w K 383 1 [] sj
 Ak:Bd af w K 390 1 [] qd
 uv:Bd af w K 397 1 [] lF
 AU:Bd af w K 404 1 [] pX
 wY:Bd af w K 418 1 [] mE
 wW:Bd af w K 425 1 [] mF
 AS:Bd af w K 432 2 [] qm
 sQ:Bd af w K 446 6 [] km
 uQ:Bd af w K 453 1 [] lO
 sH:Bd af w K 460 1 [] kj
 Iv:Bd af w K 474 2 [] xV
 Ew:Bd af w K 481 1 [] vx
 yE:Bd af w K 488 1 [] oO
 yq:Bd af w K 495 1 [] oX
 uL:Bd af w K 509 5 [] lI
 vQ:Bd af w K 516 1 [] nh
 uB:Bd af w K 530 1 [] lC
 qU:Bd af w K 544 1 [] jM
 qB:Bd af w K 551 1 [] jK
 wL:Bd af w K 565 5 [] mP
 ye:Bd af w K 570 1 [] oB
 wF:Bd af w K 575 1 [] mQ
 s9:Bd af w K 589 1 [] ko
 sF:Bd af w K 596 1 [] kg
 wz:Bd af w K 610 7 [] mS
 yB:Bd af w K 617 1 [] oS
 ti:Bd af w K 624 1 [] kB
 BG:Bd af w K 638 2 [] rX
 AA:Bd af w K 645 1 [] pY
 th:Bd af w K 652 1 [] kn
 uy:Bd af w K 666 2 [] lj
 lX:Bd af w K 687 2 [] hJ
 mM:Bd af w K 694 3 [] iz
 gX:Bd af w K 715 2 [] eV
 uR:Bd af w K 722 3 [] lG
 vL:Bd af w K 729 1 [] mJ
 KA:Bd af w K 743 2 [] sq
 Nv:Bd af w K 750 1 [] sM
 Ea:Bd af w K 757 1 [] oA
 Lb:Bd af w K 764 1 [] sE
 Qt:Bd af w K 769 1 [] vk
 Mo:Bd af w K 776 1 [] sX
 HL:Bd af w K 783 2 [] p9
 wU:Bd af w K 790 2 [] jP
 Hj:Bd af w K 797 1 [] pP
 K8:Bd af w K 804 3 [] vm
 Gi:Bd af w K 811 3 [] tj
 B5:Bd af w K 818 1 [] nj
 vM:Bd af w K 825 1 [] jQ
 M9:Bd af w K 832 1 [] rK
 HW:Bd af w K 837 3 [] pN
 pb:Bd af w K 844 2 [] mY
 KV:Bd af w K 849 1 [] tc
 B7:Bd af w K 854 1 [] mZ
 um:Bd af w K 859 1 [] jh
 AL:Bd af w K 864 1 [] lP
 td:Bd af w K 871 1 [] iO
 Hy:Bd af w K 878 1 [] pZ
 QJ:Bd af w K 885 3 [] vf
 Iy:Bd af w K 892 2 [] qj
 NB:Bd af w K 899 3 [] sx
 BO:Bd af w K 906 1 [] mT
 Ht:Bd af w K 913 1 [] pW
 nV:Bd af w K 920 1 [] gG
 sk:Bd af w K 925 3 [] iQ
 wA:Bd af w K 932 3 [] jJ
 EP:Bd af w K 939 3 [] ow
 z9:Bd af w K 946 2 [] lR
 qL:Bd af w K 953 3 [] iA
 pn:Bd af w K 960 2 [] g_
 lW:Bd af w K 967 2 [] fW
 Ie:Bd af w K 972 2 [] ql
 uE:Bd af w K 977 4 [] jk
 rO:Bd af w K 982 2 [] iP
 Kc:Bd af w K 989 7 [] sN
 law:Bd af w K 994 1 [] Ih
theorem Bd.to(b:Bd af w K f k ext ms)(hl:args.length+ext.length=k)(a:aB d n=true)(h:∀n,dN d n=true->bO af w K aG n ms (sr (args++ext)) H (dE Q) (cG X)):aY af w K n f args H Q X:=by
 have a:=aE a
 induction n using Nat.casesOn with
 |zero=>exact absurd a (uf _)
 |succ n=>
  exact(b n args H (zI Q) (cG X) hl (h n (d3.mpr (iJ a)))).mono (λv c q=>q) λC c q=>q
theorem bH(e:Ext H' H)(q:Q v H'):zI Q v H:=⟨H',e,q⟩
theorem cR(e:Ext H' H)(q:Q .none H'):zI Q .none H:=⟨H',e,q⟩
theorem xe(e:Ext H' H)(q:X C H'):cG X C H:=⟨H',e,q⟩
theorem lv(h:dN d n=true)(k:aB e d=true):aB e n=true:=d3.mpr (aH (aE k) (aE h))
def Io(af:eA)(w:bY)(K:fg)(n:Nat)(ms:List S)(Q:Fl->Loc->Hp->Prop)(X:Addr->Hp->Prop)(P:Loc->Hp->Prop)(fl:Fl)(ρ:Loc)(H:Hp):Prop:=match fl with
 | .next=>P ρ H
 | .brk=>bO af w K aG n ms ρ H Q X
 | .ret v=>Q (.ret v) ρ H
theorem CW{Q:Fl->Loc->Hp->Prop}(h:∀P:Loc->Hp->Prop,(∀ρ H,tw af w K aG n t ρ H (λc a=>if c=true then bO af w K aG n b ρ a (Io af w K n ms Q X P) X else bO af w K aG n ms ρ a Q X) X->P ρ H)->P ρ H):
  bO af w K aG n (.oK t b::ms) ρ H Q X:=λP d=>h P d
theorem Ci{Q:Fl->Loc->Hp->Prop}(h:P ρ H):Io af w K n ms Q X P .next ρ H:=h
theorem XR(m:Nat):(m:Int).fdiv (2^Int.toNat 7)=((m / 128:Nat):Int):=by
 erw[aj (o_ _ (dc rfl))];rfl
def rE(n:Int):Prop:=0<=n/\n<=18446744073709551615
theorem m_(h:H a=some x):upd H a x=H:=funext λb=>by
 unfold upd
 by_cases e:b=a
 ·erw[aj (if_pos e),aj e,aj h];rfl
 ·erw[aj (if_neg e)];rfl
theorem OK(j:∀ρ H,tw af w K aG n (.cmp .GtE aN (ek 128)) ρ H (λt o=>if t=true then bO af w K aG n [.expr (.bp dB 0 [(.bin .BitOr (.bin .BitAnd aN (ek 127)) (ek 128))]),.pj 0 .RShift (ek 7)] ρ o (Io af w K n ms F X P) X else bO af w K aG n ms ρ o F X) X->P ρ H):
  ∀(k m:Nat)(a:List UInt8)(ρ:Loc)(H:Hp),m<128^(k+1)->a.length+k<=100->ρ 0=some (.int m)->ρ 2=some (.ref c)->H c=some (.cZ a)->
   (∀(l:Nat)(D:List UInt8)(e:Loc),l<128->e 0=some (.int l)->e 2=some (.ref c)->D.length<=100->D++[cM l]=a++vr m->bO af w K aG n ms e (upd H c (.cZ D)) F X)->P ρ H:=by
 intro k;have b:∀m a ρ H,m<128->a.length<=100->ρ 0=some (.int m)->ρ 2=some (.ref c)->H c=some (.cZ a)->
   (∀l D e,l<128->e 0=some (.int l)->e 2=some (.ref c)->D.length<=100->D++[cM l]=a++vr m->bO af w K aG n ms e (upd H c (.cZ D)) F X)->P ρ H:=λm a ρ H d f h0 h2 g i=>by
  erw[j ρ H,Zy rfl,<-Zc h0 ?_,<-nQ (λh=>absurd h (UL d)) (λh=>?_),Zi];have:=i m a ρ d h0 h2 f (aj (qP d) rfl)
  rwa [m_ g] at this
 induction k with
 |zero=>exact λm a ρ H d f=>b m a ρ H (by simpa using d) (zwd f rfl)
 |succ k p=>
  intro m a ρ H d f h0 h2 g i
  by_cases h:m<128
  ·exact b m a ρ H h (fe [(zp av aW,zn 100)] (av,zn 100) rt f) h0 h2 g i
  ·erw[j ρ H,Zy rfl,<-Zc h0 ?_,<-nQ (λ_=>?_) (λq=>absurd q (Ww h)),Zp,Zk,Zm,<-Zc h2 ?_,mh g rfl,Za,Zv rfl,Zv rfl,<-Zc h0 ?_,Zam,Zax,Zb];refine' aj (show(jf (gr m 127) 128)=(m%128+128:Nat) from by
    rw[<-Ls];exact(congrArg (jf · 128) (z0 m 127)).trans (BS _ 128)) ?_
   erw[Aq g (fe [(zp av aW,zn 100)] (av,zn 100000) rt f) (ax.mpr (dJ [] (zn 0,av) rt)) (bb.mpr (dJ [(zs av,zn 128)] (zs (zk av 128),zn 256) rt k_)),zu h0,ZA,<-⟨_,_,rfl,rfl,⟨by decide,?_⟩⟩];rw[XR];erw[Ze,<-Ci (p (m / 128) (a++[cM (m%128+128)]) _ _ (by rw[lT (dc rfl),<-kS];exact d) (aj ah (aj aV (fe [(zp av (zs aW),zn 100)] (zp (zs av) aW,zn 100) rt f))) rfl h2 us λl D e x v u s r=>?_)];rw[bR];exact i l D e x v u s (by erw[aj r,aj (AK (bW h))];rewrite[aC];rfl)
theorem eJ{n:Int}(h:rE n):∃m:Nat,n=m/\m<2^64:=⟨n.toNat,by have:=h.1;exact da (oY [(cN,dW)] (cN,dW) rt (kQ _)) (oY [(cN,dW)] (cN,dW) rt (aF (gQ (oG [(yn 0,cN)] (yn 0,cN) rt this)))),(zx h.1).mpr (o8 h.2 (dc rfl))⟩
theorem du{n:Int}(h:n.natAbs<2^100):big n:=aZ h (d0 (dc rfl) (dc rfl))
theorem Pa:big 18446744073709551615:=du (dc rfl)
theorem qM(R:Rd af w K)(u:big m)(e:most<2^64)(b:aB 0 n=true)(q:∀k:Nat,m=k->k<=most->Q (.bytes (vr k)) H)(x:¬(0<=m/\m<=most)->X 80 H):aY af w K n 137 [.int m,.int (most:Int)] H Q X:=by
 erw[R.wJ.to rfl b,(n b)];have j:=du (by rw[cT];exact b_ e (dc rfl));erw[Zh,ZT,Zn,Zj rfl rfl,<-fC (λh=>?_) (λh=>?_)]
 ·erw[Z2,Zp,ZZ,u9 rfl,ZE rfl rfl,tx2 ‹_› ‹_›,vg,<-xe Ext.refl (x λy=>absurd h (gq.mpr y.1))]
 ·erw[ZM,Zn,Zj rfl rfl,<-j_ (λa=>?_) (λa=>?_)]
  ·erw[Z2,Zp,ZZ,u9 rfl,ZE rfl rfl,tx2 ‹_› ‹_›,vg,<-xe Ext.refl (x λy=>absurd a (gq.mpr y.2))]
  ·erw[ZM,ZD,Zi,Ze,Zd,Zg,Ky,(c i),CW,(P o),bf (jW h),(k p)];subst p;have d:k<=most:=by exact Rh a
   erw[OK o 9 k [] _ _ (aM d (aZ e (dc rfl))) (dc rfl) rfl rfl us,(l z v t s g f r)];rw[bR];erw[Zk,Zm,<-Zc g ?_,mh us rfl,<-ZF s ?_,Aq us (dK f rfl) (ax.mpr (dJ [] (zn 0,av) rt)) (bb.mpr (dJ [(zs av,zn 128)] (zs av,zn 256) rt t)),Zt,ZX,<-ZF g ?_];rw[bR];erw[Mm us (aj ah (aj aV (OJ f rfl)))];rewrite[aL];erw[aj r,<-bH (Ext.fresh Ext.refl i) (q k rfl d)]
def vi(n:Int):List UInt8:=vr n.toNat
theorem gN(k:Nat):vi (k:Int)=vr k:=by unfold vi;rw[aL]
theorem eE{n:Int}(h:rE n):(vi n).length<=10:=fN 9 _ (by exact(zx h.1).mpr (o8 h.2 (dc rfl)))
theorem Gk(h0:0<=m)(h:m<128):toBytes [m]=vi m:=by
 unfold vi;erw[aj (qP (Xh h))];rfl
theorem Bq(R:Rd af w K)(d:big m)(b:aB 1 n=true)(q:rE m->Q (.bytes (vi m)) H)(x:¬rE m->X 80 H):aY af w K n 151 [.int m] H Q X:=by
 erw[R.zY.to rfl b,(n b)];have r:aY af w K n 137 [.int m,.int 18446744073709551615] H (λv l=>dE Q (Fl.ret v) (sr ([.int m]++[])) l) (cG X):=by
  refine qM R d (dc rfl) (lv b rfl) (λk e f=>bH Ext.refl ?_) (λh=>xe Ext.refl (x h));subst e;have:=q ⟨ir,ax.mpr (dJ [(av,zn 18446744073709551615)] (av,zn 18446744073709551615) rt f)⟩
  rwa [gN] at this
 erw[Zh,ZR,Zn,Zj rfl rfl,<-nQ (λh=>?_) (λh=>?_)]
 ·erw[Zp,Zn,Zj rfl rfl,<-fC (λa=>?_) (λa=>?_)]
  ·erw[Zp,ZD,Zp,Zt,ZX,Za,eP rfl,ZF rfl,(c j),Zb,vc us rfl (λi g=>?_) (aE rfl)]
   ·erw[aj (aR.mp g),<-⟨h,Wj a⟩]
   ·erw[aj (Gk h a),<-bH (Ext.fresh Ext.refl j) (q ⟨h,XX a⟩)]
  ·erw[Zi,Zi,Ze,Zd,Zt,ZU rfl rfl,<-r]
 ·erw[Zi,Zi,Ze,Zd,Zt,ZU rfl rfl,<-r]
theorem y0(R:Rd af w K)(d:m<2^20)(a:aB 1 n=true)(q:Q (.bytes (vr m)) H):aY af w K n 165 [.int (m:Int)] H Q X:=by
 erw[R.wX.to rfl a,(n a)];have r:aY af w K n 137 [.int m,.int 4294967295] H (λv j=>dE Q (Fl.ret v) (sr ([.int m]++[])) j) (cG X):=by
  erw[<-qM R (du (by rw[cT];exact b_ d (dc rfl))) (dc rfl) (lv a rfl) (λk e l=>bH Ext.refl ?_) (λh=>absurd ⟨ir,ax.mpr (dJ [(zs av,zn 1048576)] (av,zn 4294967295) rt d)⟩ h),aj (show k=m by exact aS (fe [(av,aW)] (av,aW) rt (aa (ao (gZ e)))) (fe [(av,aW)] (av,aW) rt (aa (gZ e)))),<-q]
 erw[Zh,ZR,Zn,Zj rfl rfl,<-nQ (λh=>?_) (λh=>absurd h LC),Zp,Zn,Zj rfl rfl,<-fC (λb=>?_) (λb=>?_)]
 ·erw[Zp,ZD,Zp,Zt,ZX,Za,eP rfl,ZF rfl,(c g),Zb,vc us rfl (λi f=>?_) (aE rfl)]
  ·erw[aj (aR.mp f),<-⟨h,Wj b⟩]
  ·erw[aj (Gk h b)];rewrite[gN];exact bH (Ext.fresh Ext.refl g) q
 ·erw[Zi,Zi,Ze,Zd,Zt,ZU rfl rfl,<-r]
theorem Oq(f:∀ρ H,tw af w K aG n (.cmp .GtE aN (ek 128)) ρ H (λt i=>if t=true then bO af w K aG n [.pj 0 .RShift (ek 7),.pj 1 .Add (ek 1)] ρ i (Io af w K n ms F X P) X else bO af w K aG n ms ρ i F X) X->P ρ H):
  ∀(k m c:Nat)(ρ:Loc)(H:Hp),m<128^(k+1)->ρ 0=some (.int m)->ρ 1=some (.int c)->
   (∀(e:Loc)(a:Nat),e 1=some (.int a)->a+1=c+(vr m).length->bO af w K aG n ms e H F X)->P ρ H:=by
 intro k;have l:∀m c ρ H,m<128->ρ 0=some (.int m)->ρ 1=some (.int c)->
   (∀e a,e 1=some (.int a)->a+1=c+(vr m).length->bO af w K aG n ms e H F X)->P ρ H:=λm c ρ H b h0 h1 d=>by
  erw[f ρ H,Zy rfl,<-Zc h0 ?_,<-nQ (λh=>absurd h (UL b)) (λh=>?_),Zi,<-d ρ c h1 (aj (qP b) rfl)]
 induction k with
 |zero=>exact λm c ρ H b=>l m c ρ H (by simpa using b)
 |succ k j=>
  intro m c ρ H b h0 h1 d
  by_cases h:m<128
  ·exact l m c ρ H h h0 h1 d
  ·erw[f ρ H,Zy rfl,<-Zc h0 ?_,<-nQ (λ_=>?_) (λo=>absurd o (Ww h)),Zp,zu h0,ZA,<-⟨_,_,rfl,rfl,⟨by decide,?_⟩⟩];rw[XR];erw[<-Ae ⟨_,h1,?_⟩,ZA,<-⟨_,_,rfl,rfl,?_⟩,Zw,Ze,<-Ci (j (m / 128) (c+1) _ _ (by rw[lT (dc rfl),<-kS];exact b) rfl rfl λe a p g=>?_),<-d e a p (aj (AK (n:=m) (bW h)) (aj aU (aS (gF [(av,zp (zs aW) bT)] (av,zp aW (zs bT)) rt (aa g)) (gF [(zp (zs av) aW,bT)] (zp av (zs aW),bT) rt (aa (ao g))))))]
theorem iI(R:Rd af w K)(i:big m)(b:aB 0 n=true)(q:rE m->Q (.int (vi m).length) H)(x:¬rE m->X 80 H):aY af w K n 179 [.int m] H Q X:=by
 erw[R.ur.to rfl b,(n b)];have:=Pa;erw[Zh,ZT,Zn,Zj rfl rfl,<-fC (λh=>?_) (λh=>?_)]
 ·erw[Z2,Zp,ZZ,u9 rfl,ZE rfl rfl,tx2 ‹_› ‹_›,vg,<-xe Ext.refl (x λy=>absurd h (gq.mpr y.1))]
 ·erw[ZM,Zn,Zj rfl rfl,<-j_ (λa=>?_) (λa=>?_)]
  ·erw[Z2,Zp,ZZ,u9 rfl,ZE rfl rfl,tx2 ‹_› ‹_›,vg,<-xe Ext.refl (x λy=>absurd a (gq.mpr y.2))]
  ·erw[ZM,ZD,Zi,Ze,Zd,Z1 rfl,CW,(P d),bf (jW h),(k e)];subst e;erw[Oq d 9 k 1 _ _ (by exact dJ [(av,zn 18446744073709551615)] (zs av,zn 1180591620717411303424) rt (ax.mp a)) rfl rfl,(j f g c),<-ZO g ?_];have:=q ⟨h,a⟩;rw[gN,show(vr k).length=f by exact aS (fe [(zp (zn 1) av,zs aW)] (av,aW) rt (aa (ao c))) (fe [(zs av,zp (zn 1) aW)] (av,aW) rt (aa c))] at this;exact bH Ext.refl this
section
variable{G:Hp}
noncomputable def qb(p:Addr):MO:=.inst 344 [(4,.ref p)]
def tx(d:List UInt8):List UInt8:=vr d.length++d
noncomputable def fb(t:Bool):UInt8:=if t then 1 else 0
theorem fw(n:a≠b):upd (upd H a x) b y=upd (upd H b y) a x:=funext λc=>by
 unfold upd
 by_cases e:c=b
 ·erw[aj (if_pos e),aj (if_neg (λq=>n (q.symm.trans e))),aj (if_pos e)];rfl
 ·erw[aj (if_neg e)]
  by_cases d:c=a
  ·erw[aj (if_pos d),aj (if_pos d)];rfl
  ·erw[aj (if_neg d),aj (if_neg d),aj (if_neg e)];rfl
theorem Ga(h:(upd G p (.cZ b)) a=some (.inst C fs)):a≠p/\G a=some (.inst C fs):=by
 by_cases e:a=p
 ·subst e;rw[cY] at h;cases h
 ·rw[dp _ _ e] at h;exact⟨e,h⟩
theorem zT(R:Rd af w K)(c:aB 0 n=true)(q:∀a p,H a=none->H p=none->a≠p->Q (.ref a) (upd (upd H a (qb p)) p (.cZ []))):dk af w K aG n (.call (.cls 344 285) []) ρ H Q X:=by
 erw[(a e),R.BC.to rfl c,(n c),Zu,Ky,(p d),aD (bo d),(h b),Zc rfl,bQ (ae (aJ b) us) rfl rfl,<-⟨_,Ext.refl,rfl,?_⟩];have:=q a p e h (aJ b);erw[aj (fw b)];rewrite[bR];assumption
theorem sv(R:Rd af w K)(j:big m)(h:(upd G p (.cZ b)) a=some (qb p))(f:b.length<=L)(g:dN L 90000=true)(i:aB 2 n=true)(q:rE m->(b++vi m).length<=L+10->Q .none (upd G p (.cZ (b++vi m))))(x:¬rE m->X 80 (upd G p (.cZ b))):aY af w K n 292 [.ref a,.int m] (upd G p (.cZ b)) Q X:=by
 erw[R.yR.to rfl i,(n i)];have g:=aE g;have c:aY af w K n 151 [.int m] (upd G p (.cZ b)) (λv H=>mk? (V.ref p) H=some MK.cZ/\jY af w K aG n (V.ref p) 2 [v] H (λx H=>h_ af w K n [] (dE Q) (cG X) .next (sr ([.ref a,.int m]++[])) H) (cG X)) (cG X):=by
  erw[<-Bq R j (lv i rfl) (λd=>?_) (λd=>xe Ext.refl (x d)),Gv us (dK (aH f g) rfl) (by have:=eE d;exact dK this rfl)];rw[bR];exact cR Ext.refl (q d (by erw[aj ah];have:=eE d;exact XQ this f))
 erw[Zh,ZR,Zn,Zj rfl rfl,<-nQ (λh0=>?_) (λh0=>?_)]
 ·erw[Zp,Zn,Zj rfl rfl,<-fC (λh1=>?_) (λh1=>?_)]
  ·erw[Zp,ZD,Zp,Zk,Zm,Zl rfl,aO h rfl rfl,mh us rfl,Aq us (dK (aH f g) rfl) (by assumption) (oG [(ys cN,yn 128)] (ys cN,yn 256) rt h1)];have r:rE m:=⟨h0,XX h1⟩;rw[bR];have e:vi m=[cM m.toNat]:=by unfold vi;refine' aj (qP (Xh h1)) ?_;rfl
   erw[c_ e,<-cR Ext.refl (q r (by erw[aj ah];have:=eE r;exact XQ this f))]
  ·erw[Zi,Zi,Zk,Zm,Zl rfl,aO h rfl rfl,mh us rfl,<-c]
 ·erw[Zi,Zi,Zk,Zm,Zl rfl,aO h rfl rfl,mh us rfl,<-c]
theorem sl(R:Rd af w K)(h:(upd G p (.cZ b)) a=some (qb p))(i:b.length<=L)(g:dN L 90000=true)(e:d.length<=D)(c:dN D 9000=true)(f:aB 2 n=true)(q:(b++tx d).length<=L+(D+10)->Q .none (upd G p (.cZ (b++tx d)))):aY af w K n 313 [.ref a,.bytes d] (upd G p (.cZ b)) Q X:=by
 erw[R.uN.to rfl f,(n f)];have g:=aE g;have c:=aE c;erw[aD (Ga h),(j k)];have z:=fN 9 _ (aM (aH e c) (dc rfl));erw[aO h rfl rfl,mh us rfl,Za,Zq,Za,ZG rfl,eZ (dK (aH e c) rfl),y0 R (aM (aH e c) (dc rfl)) (lv f rfl),Gv us (dK (aH i g) rfl) (dK z rfl),aO (ae j h) rfl rfl,mh us rfl];rw[bR];erw[Gv us (by erw[aj ah];lia) (dK (aH e c) rfl)];rw[bR,aC];exact cR Ext.refl (q (by unfold tx;erw[aj ah,aj ah,<-QK [(av,zn 10),(aW,bT),(f9,tf)] (zp aW (zp av f9),zp bT (zk tf 10)) rt z i e]))
theorem sf(R:Rd af w K)(h:(upd G p (.cZ b)) a=some (qb p))(d:b.length<=L)(c:dN L 90000=true)(f:aB 0 n=true)(q:(b++[fb t]).length<=L+1->Q .none (upd G p (.cZ (b++[fb t])))):aY af w K n 327 [.ref a,.bool t] (upd G p (.cZ b)) Q X:=by
 erw[R.BN.to rfl f,(n f)];have c:=aE c;have e:=q (aj ah (aj aV (Th d)))
 induction t using tQ with
 |true=>
  erw[aO h rfl rfl,mh us rfl,Aq us (dK (aH d c) rfl) (dc rfl) (dc rfl)];rw[bR];exact cR Ext.refl e
 |false=>
  erw[aO h rfl rfl,mh us rfl,Aq us (dK (aH d c) rfl) (dc rfl) (dc rfl)];rw[bR];exact cR Ext.refl e
theorem sd(R:Rd af w K)(h:(upd G p (.cZ b)) a=some (qb p))(e:b.length<=L)(c:dN L 100000=true)(d:aB 0 n=true)(q:Q (.bytes b) (upd G p (.cZ b))):aY af w K n 341 [.ref a] (upd G p (.cZ b)) Q X:=by
 erw[R.BB.to rfl d,(n d)];have c:=aE c;erw[aO h rfl rfl,Zb,Mm us (dK (aH e c) rfl),<-bH Ext.refl q]
structure En where
 t:Int
 i:Int
 k:Int
 d:List UInt8
noncomputable def En.o(e:En):MO:=.inst 407 [(0,.int e.t),(1,.int e.i),(2,.int e.k),(3,.bytes e.d)]
noncomputable def En.vs(e:En):List V:=[.int e.t,.int e.i,.int e.k,.bytes e.d]
def En.oct(e:En):List UInt8:=vi e.t++vi e.i++vi e.k++tx e.d
structure En.An(e:En):Prop where
 t:big e.t
 i:big e.i
 k:big e.k
 d:e.d.length<=200
structure En.In(e:En):Prop where
 t:rE e.t
 i:rE e.i
 k:rE e.k
theorem jE(R:Rd af w K){e:En}(h:H a=some e.o)(b:aB 0 n=true)(q:Q (.tup e.vs) H):aY af w K n 383 [.ref a] H Q X:=by
 erw[R.BX.to rfl b,(n b),Zt,iX rfl,aO h rfl rfl,aO h rfl rfl,aO h rfl rfl,aO h rfl rfl,<-bH Ext.refl q]
theorem xC(R:Rd af w K){e:En}(h:H a=some e.o)(b:e.d.length<=200)(c:aB 0 n=true)(q:Q (.int e.d.length) H):aY af w K n 397 [.ref a] H Q X:=by
 erw[R.uv.to rfl c,(n c),aO h rfl rfl,Zb,eZ (dK b rfl),<-bH Ext.refl q]
theorem C_(R:Rd af w K)(b:H a=none)(h:aB 0 n=true)(q:Q .none (upd H a (En.o ⟨t,i,k,d⟩))):aY af w K n 376 [.ref a,.int t,.int i,.int k,.bytes d] (upd H a (.inst 407 [])) Q X:=by
 erw[R.Ai.to rfl h,(n h),bQ us rfl rfl,bQ us rfl rfl,bQ us rfl rfl,bQ us rfl rfl];rw[bR,bR,bR,bR];exact cR Ext.refl q
theorem oQ(R:Rd af w K){e:En}(h:H a=some e.o)(b:aB 1 n=true)(q:∀c,H c=none->Q (.ref c) (upd H c e.o)):aY af w K n 390 [.ref a] H Q X:=by
 erw[R.Ak.to rfl b,(n b),aO h rfl rfl,aO h rfl rfl,aO h rfl rfl,aO h rfl rfl,(c d),<-C_ R d (lv b rfl) ⟨rfl,?_⟩,<-bH Ext.refl (q c d)]
theorem En.gK{e:En}(b:e.d.length<=200)(r:e.In):e.oct.length<=300:=by
 have f:=eE r.t;have c:=eE r.i;have a:=eE r.k;have w:=fN 9 _ (aM b (dc rfl));unfold En.oct tx;simp only[ah];exact QK [(av,zn 10),(aW,zn 10),(bT,zn 10),(f9,zn 10),(tf,zn 200)] (zp (zp (zp av aW) bT) (zp f9 tf),zn 300) rt f c a w b
theorem kM(R:Rd af w K){e:En}(h:H a=some e.o)(b:e.An)(c:aB 1 n=true)(q:e.In->Q (.int e.oct.length) H)(x:¬e.In->X 80 H):aY af w K n 404 [.ref a] H Q X:=by
 erw[R.AU.to rfl c,(n c)];have bd:=b.d;erw[aO h rfl rfl,Zb,eZ (dK bd rfl),aO h rfl rfl,<-iI R b.t (lv c rfl) (λl=>?_) (λr=>xe Ext.refl (x λy=>r y.t)),aO h rfl rfl,<-iI R b.i (lv c rfl) (λj=>?_) (λr=>xe Ext.refl (x λy=>r y.i)),aO h rfl rfl,<-iI R b.k (lv c rfl) (λg=>?_) (λr=>xe Ext.refl (x λy=>r y.k)),Zw,Zt,Zv rfl,ZI rfl,Zz rfl];have f:rE (e.d.length:Int):=⟨ir,ax.mpr (dJ [(av,zn 200)] (av,zn 18446744073709551615) rt bd)⟩;refine iI R (du (by rw[cT];exact aM bd (dc rfl))) (lv c rfl) (λ_=>?_) (λr=>absurd f r);have:=q ⟨l,j,g⟩;have e1:e.oct.length=(vi e.t).length+(vi e.i).length+(vi e.k).length+(vi e.d.length).length+e.d.length:=by
  rw[gN];unfold En.oct tx;simp only[ah];lia
 rw[e1] at this;exact bH Ext.refl this
theorem jb(R:Rd af w K){e:En}(h:H a=some e.o)(b:e.An)(g:aB 3 n=true)(q:e.In->Q (.bytes e.oct) H)(x:¬e.In->X 80 H):aY af w K n 418 [.ref a] H Q X:=by
 erw[R.wY.to rfl g,(n g),Zg,zT R (lv g rfl),(c p l j z)];have m:∀b,Ext H (upd (upd H c (qb p)) p (.cZ b)):=λb=>Ext.fresh (Ext.fresh Ext.refl l) j;have f:∀b,(upd (upd H c (qb p)) p (.cZ b)) c=some (.inst 344 [(4,.ref p)]):=λb=>ae z us;erw[<-fj (f _) ⟨rfl,?_⟩,aO (ae (ne_sn h j) (ae (ne_sn h l) h)) rfl rfl,bt (f _) rfl,<-sv R b.t (f _) (iU 0) rfl (lv g rfl) (λv l1=>?_) (λr=>xe (m _) (x λy=>r y.t)),<-fj (f _) ⟨rfl,?_⟩,aO (ae (ne_sn h j) (ae (ne_sn h l) h)) rfl rfl,bt (f _) rfl,<-sv R b.i (f _) l1 rfl (lv g rfl) (λu l2=>?_) (λr=>xe (m _) (x λy=>r y.i)),<-fj (f _) ⟨rfl,?_⟩,aO (ae (ne_sn h j) (ae (ne_sn h l) h)) rfl rfl,bt (f _) rfl,<-sv R b.k (f _) l2 rfl (lv g rfl) (λs l3=>?_) (λr=>xe (m _) (x λy=>r y.k)),<-fj (f _) ⟨rfl,?_⟩,aO (ae (ne_sn h j) (ae (ne_sn h l) h)) rfl rfl,bt (f _) rfl,<-sl R (f _) l3 rfl b.d rfl (lv g rfl) (λl4=>?_),<-fj (f _) ⟨rfl,?_⟩,bt (f _) rfl,sd R (f _) l4 rfl (lv g rfl),<-bH (m _) (q ⟨v,u,s⟩)]
end
section
variable{G:Hp}
theorem Ext.put(e:Ext H H')(h:H' c=some x):Ext (upd H c x) H':=λa m q=>by
 by_cases n:a=c
 ·subst n;rw[cY] at q;erw[c_ q,<-h]
 ·rw[dp _ _ n] at q;exact e a m q
def forM(af:eA)(w:bY)(K:fg)(n:Nat)(x:Nat)(b ms:List S)(F:Fl->Loc->Hp->Prop)(X:Addr->Hp->Prop)(ρ:Loc)(v:V)(H':Hp):Prop:=match v with
 | .ref a=>(match H' a with
   |some (.list vs)=>vs.length<=1000/\forL (λv ρ H Q=>bO af w K aG n b (upd ρ x v) H Q X) (λcI=>cI a=some (.list vs)) vs ρ H' (h_ af w K n ms F X)
   |_=>False)
 |_=>False
theorem Z_(h:dk af w K aG n e ρ H (λv a=>forM af w K n x b ms F X ρ v a) X):bO af w K aG n (.q7 x e b::ms) ρ H F X:=h
def B2(step:V->Loc->Hp->(Fl->Loc->Hp->Prop)->Prop)(qV:Hp->Prop)(vs:List V)(Q:Fl->Loc->Hp->Prop)(fl:Fl)(ew:Loc)(H':Hp):Prop:=match fl with
 | .next=>qV H'/\forL step qV vs ew H' Q
 | .brk=>Q .next ew H'
 | .ret r=>Q (.ret r) ew H'
theorem wR{step:V->Loc->Hp->(Fl->Loc->Hp->Prop)->Prop}(I:List V->Loc->Hp->Prop):∀(vs:List V) {ρ:Loc} {H:Hp},I vs ρ H->
  (∀ρ H,I [] ρ H->F .next ρ H)->(∀v r ρ H,(∀e a,I r e a->forL step qV r e a F)->I (v::r) ρ H->step v ρ H (B2 step qV r F))->forL step qV vs ρ H F
 |[],_,_,h,h0,_=>h0 _ _ h
 |v::vs,ρ,H,h,h0,hs=>hs v vs ρ H (λ_ _ i=>wR I vs i h0 hs) h
theorem Fs(h:H a=some (.list vs))(l:vs.length<=1000)(I:List V->Loc->Hp->Prop)(h1:I vs ρ H)(h0:∀ρ H,I [] ρ H->bO af w K aG n ms ρ H F X)(f:∀v r ρ H,(∀e d,I r e d->forL (λv ρ H Q=>bO af w K aG n b (upd ρ x v) H Q X) (λc=>c a=some (.list vs)) r e d (h_ af w K n ms F X))->I (v::r) ρ H->
   bO af w K aG n b (upd ρ x v) H (B2 (λv ρ H Q=>bO af w K aG n b (upd ρ x v) H Q X) (λc=>c a=some (.list vs)) r (h_ af w K n ms F X)) X):
  forM af w K n x b ms F X ρ (.ref a) H:=by
 unfold forM;dsimp only;erw[aj h,<-⟨l,wR I vs h1 h0 f⟩]
noncomputable def iv(l:List Int):List V:=l.map .int
theorem D0:∀l:List Int,kT (iv l)=some l
 |[]=>rfl
 |i::l=>by show(kT (iv l)).map (i:: ·)=_;refine' aj (D0 l) ?_;rfl
theorem Ig:KR (l++[v]) (-1)=some v:=by
 unfold KR;erw[aj (if_neg (dc rfl)),aj ah,aj aV,aj (if_pos (by lia)),aj (show((-1:Int)+(l.length+1:Nat)).toNat=l.length by lia),aj (iS qt)];rewrite[ou];rfl
theorem tJ(R:Rd af w K)(h:H a=some (.list (iv l)))(s:l.Pairwise (· < ·))(z:l.length<64)(x:aB 0 n=true)(q:∀c,H c=none->Q (.ref c) (upd H c (.list (iv l)))):aY af w K n 355 [.ref a] H Q X:=by
 erw[R.rising.to rfl x,(n x),Zg,eP rfl,Zb,(c o),Z_,Zap,ZF rfl,Pq (ae (ne_sn h o) h) (D0 l) (s.imp IF) z,(d u),aD (bo u),(u p)];refine Fs us (by unfold iv;rw[aq];exact zw5 z rfl) (λf ρ g=>∃done t,f=iv t/\done++t=l/\ρ 1=some (.ref c)/\Ext H g/\g c=some (.list (iv done))/\g d=some (.list (iv l)))
  ⟨[],l,rfl,rfl,rfl,Ext.fresh (Ext.fresh Ext.refl o) u,ae (aJ p) us,us⟩ (λρ g=>(CJ · λdone t e1 e2 e3 e4 e5 e6=>?_)) λv f ρ g B=>(CJ · λdone t e1 e2 e3 e4 e5 e6=>?_)
 ·induction t using lcs with
  |cons=>injection e1
  |nil=>
   rw[a_] at e2;replace e2:=e2.symm;subst e2;erw[<-ZO e3 ?_,<-bH (e4.put e5) (q c o)]
 ·induction t using lcs with
  |nil=>injection e1
  |cons i t=>
   injection e1 with e1 e7
   subst e1;subst e7;have m:bO af w K aG n [.expr (.bp bA 0 [dB])] (upd ρ 2 (.int i)) g (h_ af w K n [] (B2 (λv ρ H Q=>bO af w K aG n [.dm (.or [(.not bA),(.cmp .NotEq (.sub bA (ek (-1))) dB)]) [.expr (.bp bA 0 [dB])] []] (upd ρ 2 v) H Q (cG X)) (λD=>D d=some (.list (iv l))) (iv t) (h_ af w K n [dj bA] (dE Q) (cG X))) (cG X)) (cG X):=by
    erw[Zk,Zm,<-Zc e3 ?_,wD e5 rfl,ZF rfl];have hl:(iv done).length<=100000:=by
     have:=congrArg cF e2;unfold iv;rw[ah,aU] at this;rw[aq];exact WE this z
    erw[qQ e5 hl,<-⟨ae p e6,B _ _ ⟨done++[i],t,rfl,by erw[c_ e2];simp,e3,λb A y=>ae (ne_sn y o) (e4 b A y),?_,ae p e6⟩⟩];rw[cY];unfold iv;simp
   have hl:(iv done).length<=100000:=by
    have:=congrArg cF e2;unfold iv;rw[ah,aU] at this;rw[aq];exact WE this z
   erw[Zh,ZT,Zn,ZP,<-Zaf e3 ?_,Fo e5 hl];cases k:done.reverse with
   |nil=>
    obtain rfl:done=[]:=by simpa using k
    exact m
   |cons j r=>
    have e:done=r.reverse++[j]:=by
     have:=congrArg List.reverse k
     simpa using this
    subst e;have C:(!(iv (r.reverse++[j])).isEmpty)=true:=by unfold iv;simp
    erw[aj C,ZM,Zn,Zy rfl,Zo rfl,<-Zc e3 ?_,<-aw (v:=.int j) e5 hl ?_ ?_]
    ·unfold iv;erw[aj aX,<-Ig]
    refine v7 (λq=>?_) (λ_=>?_)
    ·exfalso;rw[<-e2] at s;have:=(mu.mp s).2.2 j (by simp) i (by simp);exact U1 [(ys cN,dW),(dW,cN)] rt this (aF (ao q))
    ·exact m
end
section
variable{G:Hp}
theorem aI(e:Ext H H')(h:H' a=none):H a=none:=by
 cases q:H a with
 |none=>rfl
 |some x=>rw[e a x q] at h;injection h
structure BE where
 c:Addr
 v:Addr
 l:Addr
 o:Addr
 n:Addr
noncomputable def BE.O(A:BE)(u:Bool):MO:=.inst 463 [(6,.ref A.v),(7,.ref A.l),(8,.ref A.o),(9,.ref A.n),(10,.bool u)]
structure Oa(H:Hp)(A:BE)(ids:List Int)(u:Bool):Prop where
 c:H A.c=some (A.O u)
 v:H A.v=some (.list (iv ids))
 l:H A.l=some (.list (iv []))
 o:H A.o=some (.list (iv []))
 n:H A.n=some (.list (iv []))
structure Va(H:Hp)(A:BE):Prop where
 c:H A.c=none
 v:H A.v=none
 l:H A.l=none
 o:H A.o=none
 n:H A.n=none
theorem Oa.ext(x:Oa H A ids u)(e:Ext H H'):Oa H' A ids u:=⟨e _ _ x.c,e _ _ x.v,e _ _ x.l,e _ _ x.o,e _ _ x.n⟩
structure w9(l:List Int):Prop where
 up:l.Pairwise (· < ·)
 len:l.length<=30
 Iq:∀i∈l,rE i
theorem pS(R:Rd af w K)(I:w9 ids)(h:H c=none)(W:H v0=some (.list (iv ids)))(hl:H l0=some (.list (iv [])))(e:H o0=some (.list (iv [])))(d:H n0=some (.list (iv [])))(f:aB 1 n=true)(q:∀E A,A.c=c->Ext H E->Va H A->Oa E A ids u->Q .none E):aY af w K n 446 [.ref c,.ref v0,.ref l0,.ref o0,.ref n0,.bool u] (upd H c (.inst 463 [])) Q X:=by
 erw[R.sQ.to rfl f,(n f)];have e0:Ext H (upd H c (.inst 463 [])):=Ext.fresh Ext.refl h;erw[Zu,Zz rfl,tJ R (e0 _ _ W) I.up (aM I.len (dc rfl)) (lv f rfl),(v j),aD (bo j),(g L),Zc rfl,bQ (ae (aJ L) us) rfl rfl,Zu,Zz rfl,tJ R (ae (ne_sn hl h) (ae (ne_sn hl g) (ae (ne_sn hl h) hl))) mv (dc rfl) (lv f rfl),(l C),aD (bo C),(B nl),aD (bo B),(z U),aD (bo z),(i _),Zc rfl,bQ (ae (aJ nl) us) rfl rfl,Zu,Zz rfl,tJ R (ae (ne_sn e h) (ae (ne_sn e i) (ae (ne_sn e h) (ae (ne_sn e g) (ae (ne_sn e h) e))))) mv (dc rfl) (lv f rfl),(o J),aD (bo J),(r O),aD (bo r),(PY N),aD (bo PY),(p _),aD (bo p),(k M),aD (bo k),(D _),Zc rfl,bQ (ae (aJ O) us) rfl rfl,Zu,Zz rfl,tJ R (ae (ne_sn d h) (ae (ne_sn d D) (ae (ne_sn d h) (ae (ne_sn d i) (ae (ne_sn d h) (ae (ne_sn d g) (ae (ne_sn d h) d))))))) mv (dc rfl) (lv f rfl),(m y),aD (bo y),(G nm),aD (bo G),(x T),aD (bo x),(Y _),aD (bo Y),(t S),aD (bo t),(s _),aD (bo s),(WU P),aD (bo WU),(F _),Zc rfl,bQ (ae (aJ nm) us) rfl rfl,Zu,Zc rfl,Zc rfl,bQ us rfl rfl,Ze,<-cR Ext.refl (q _ ⟨c,v,l,o,m⟩ rfl (λb V a=>?_) ⟨h,g,i,D,F⟩ ⟨us,?_,?_,?_,?_⟩)]
 ·have:=e0 b V a;exact ae (ne_sn a h) (ae (ne_sn a h) (ae (ne_sn a F) (ae (ne_sn a h) (ae (ne_sn a D) (ae (ne_sn a h) (ae (ne_sn a i) (ae (ne_sn a h) (ae (ne_sn a g) this))))))))
 all_goals (try dsimp only)
 all_goals repeat (first|exact us|refine ae (by first|assumption|exact aJ (by assumption)) ?_)
theorem EX(R:Rd af w K)(I:w9 ids)(h:Oa H A ids u)(a:aB 0 n=true)(q:Q (.tup [.tup (iv ids),.tup [],.tup [],.tup [],.bool u]) H):aY af w K n 453 [.ref A.c] H Q X:=by
 erw[R.uQ.to rfl a,(n a)];have hl:(iv ids).length<=1000:=by unfold iv;rw[aq];have:=I.len;exact dK this rfl
 rcases h with⟨h1,h2,h3,h4,h5⟩
 unfold BE.O at*;have h0:(iv []).length<=1000:=dc rfl;erw[Zt,iX rfl,Za,ZL,Za,Zl rfl,aO h1 rfl rfl,Zb,gf h2 (by assumption),Za,ZL,Za,Zl rfl,aO h1 rfl rfl,Zb,gf h3 (by assumption),Za,ZL,Za,Zl rfl,aO h1 rfl rfl,Zb,gf h4 (by assumption),Za,ZL,Za,Zl rfl,aO h1 rfl rfl,Zb,gf h5 (by assumption),Za,Zl rfl,aO h1 rfl rfl,Zb,<-bH Ext.refl q]
theorem Cg(R:Rd af w K)(I:w9 ids)(h:Oa H A ids u)(d:aB 2 n=true)(q:∀a b,Ext H a->Va H b->Oa a b ids u->Q (.ref b.c) a):aY af w K n 460 [.ref A.c] H Q X:=by
 erw[R.sH.to rfl d,(n d)];rcases h with⟨h1,h2,h3,h4,h5⟩
 unfold BE.O at*;erw[Zt,ZQ,Za,Zl rfl,aO h1 rfl rfl,Za,Zl rfl,aO h1 rfl rfl,Za,Zl rfl,aO h1 rfl rfl,Za,Zl rfl,aO h1 rfl rfl,Za,Zl rfl,aO h1 rfl rfl,Zb,(c e),pS R I e h2 h3 h4 h5 (lv d rfl),(a b e1 e2 e3 e4)];subst e1;exact⟨rfl,bH Ext.refl (q a b e2 e3 e4)⟩
def mf(l:List Int):List UInt8:=vr l.length++(l.map vi).flatten
theorem pU(R:Rd af w K)(I:w9 ids)(h:(upd G p (.cZ b)) a=some (qb p))(j:(upd G p (.cZ b)) la=some (.list (iv ids)))(E:b.length<=L)(x:dN L 80000=true)(u:aB 3 n=true)(q:(b++mf ids).length<=L+400->Q .none (upd G p (.cZ (b++mf ids)))):aY af w K n 474 [.ref a,.ref la] (upd G p (.cZ b)) Q X:=by
 erw[R.Iv.to rfl u,(n u)];have x:=aE x;have y:=I.len;have o:(iv ids).length=ids.length:=by unfold iv;rw[aq]
 erw[aD (Ga h),(f m)];have d:la≠p:=λe=>by rw[e,cY] at j;cases j
 have g:G la=some (.list (iv ids)):=by rw[dp _ _ d] at j;exact j
 have A:∀b,(upd G p (.cZ b)) a=some (.inst 344 [(4,.ref p)]):=λb=>ae f m;erw[Zk,Zm,Zc rfl,bC (ae f m) rfl,Za,ZG rfl,dV j (lK o y rfl),Zb,bt (ae f m) rfl,<-sv R (du (by rw[cT];exact aM (show(iv ids).length<=30 by exact lK o y rfl) (dc rfl))) (A _) E (d3.mpr (dK x rfl)) (lv u rfl) (λC l1=>?_) (λr=>absurd ⟨ir,ax.mpr (fe [(av,aW),(aW,zn 30)] (av,zn 18446744073709551615) rt (aa o) y)⟩ r)];rw[o,gN] at l1⊢;erw[Z_,Zc rfl];refine Fs (ae d g) (lK o y rfl) (λc ρ H=>∃done t s,c=iv t/\done++t=ids/\ρ 0=some (.ref a)/\H=upd G p (.cZ s)/\s=b++vr ids.length++(done.map vi).flatten/\s.length<=L+10+10*done.length)
  ⟨[],ids,_,rfl,rfl,rfl,rfl,by erw[aj tp,aj rn];rw[a_],l1⟩ (λρ H=>(sJ · λdone t s e1 e2 e3 e4 e5 e6=>?_)) λv c ρ H D=>(sJ · λdone t s e1 e2 e3 e4 e5 e6=>?_)
 ·induction t using lcs with
  |cons=>injection e1
  |nil=>
   rw[a_] at e2;subst e2;subst e4;subst e5;have e:b++vr done.length++(done.map vi).flatten=b++mf done:=by unfold mf;rw[aC]
   rw[e] at e6⊢;erw[Ze,<-cR Ext.refl (q (gF [(zm 10 av,zm 10 (zn 30)),(aW,zp (zk bT 10) (zm 10 av))] (aW,zk bT 400) rt (aP 10 y) e6))]
 ·induction t using lcs with
  |nil=>injection e1
  |cons i t=>
   injection e1 with e1 e7
   subst e1;subst e7;subst e4;have z:=I.Iq i (by erw[c_ e2];simp);have B:=congrArg cF e2;rw[ah,aU] at B;erw[Zk,Zm,<-Zc e3 ?_,bC (ae f m) rfl,ZF rfl,bt (ae f m) rfl,<-sv R (by erw[ay (eJ z),(k e l)];rw[e];exact du (JS l rfl)) (A _) e6 (d3.mpr (fe [(av,zn 80000),(zm 10 aW,zm 10 (zn 30))] (zp (zk av 10) (zm 10 aW),zn 90000) rt x (aP 10 (gF [(zp av (zs aW),bT),(bT,zn 30)] (av,zn 30) rt (aa B) y)))) (lv u rfl) (λC l2=>?_) (λr=>absurd z r),Ze,<-⟨ae d g,D _ _ ⟨done++[i],t,_,rfl,by erw[c_ e2];rewrite[aC];rfl,e3,rfl,?_,?_⟩⟩]
   ·erw[aj e5,aj aX,aj jo];simp
   ·erw[aj (ah (as:=done)),aj aV,<-gF [(av,zk (zp aW (zm 10 bT)) 10)] (av,zp aW (zm 10 (zs bT))) rt l2]
end
section
variable{G:Hp}
def ju(ids:List Int)(u:Bool):List UInt8:=mf ids++mf []++mf []++mf []++[fb u]
theorem w9.nil:w9 []:=⟨mv,hX _,λ_ h=>nomatch h⟩
theorem AO(R:Rd af w K)(I:w9 ids)(h:Oa H A ids u)(e:aB 4 n=true)(q:(ju ids u).length<=1601->Q (.bytes (ju ids u)) H):aY af w K n 488 [.ref A.c] H Q X:=by
 erw[R.yE.to rfl e,(n e)];rcases h with⟨h1,h2,h3,h4,h5⟩
 unfold BE.O at*;erw[Zg,zT R (lv e rfl),(c p g f a)];have i:∀b,Ext H (upd (upd H c (qb p)) p (.cZ b)):=λb=>Ext.fresh (Ext.fresh Ext.refl g) f;have d:(upd H c (qb p)) c=some (.inst 344 [(4,.ref p)]):=us;erw[Zk,Zq,Zr rfl,Za,Zl rfl,aO (ae (ne_sn h1 f) (ae (ne_sn h1 g) h1)) rfl rfl,Zb,pU R I (ae a d) (i _ _ _ h2) (iU 0) rfl (lv e rfl),(l1),Zk,Zq,Zr rfl,Za,Zl rfl,aO (ae (ne_sn h1 f) (ae (ne_sn h1 g) h1)) rfl rfl,Zb,pU R w9.nil (ae a d) (i _ _ _ h3) l1 rfl (lv e rfl),(l2),Zk,Zq,Zr rfl,Za,Zl rfl,aO (ae (ne_sn h1 f) (ae (ne_sn h1 g) h1)) rfl rfl,Zb,pU R w9.nil (ae a d) (i _ _ _ h4) l2 rfl (lv e rfl),(l3),Zk,Zq,Zr rfl,Za,Zl rfl,aO (ae (ne_sn h1 f) (ae (ne_sn h1 g) h1)) rfl rfl,Zb,pU R w9.nil (ae a d) (i _ _ _ h5) l3 rfl (lv e rfl),(l4),Zk,Zm,Zc rfl,bC (ae a d) rfl,Za,Zl rfl,aO (ae (ne_sn h1 f) (ae (ne_sn h1 g) h1)) rfl rfl,Zb,bt (ae a d) rfl,sf R (ae a d) l4 rfl (lv e rfl),(l5),Zt,Zm,Zc rfl,bC (ae a d) rfl,Zb,bt (ae a d) rfl,sd R (ae a d) l5 rfl (lv e rfl),<-bH (i _) (q (aH l5 (dc rfl)))]
structure Sn where
 i:Int
 t:Int
 ids:List Int
 u:Bool
 d:List UInt8
structure Sn.Ok(s:Sn):Prop where
 i:rE s.i
 t:rE s.t
 ids:w9 s.ids
 d:s.d.length<=200
noncomputable def Sn.O(s:Sn)(c:Addr):MO:=.inst 533 [(1,.int s.i),(0,.int s.t),(11,.ref c),(3,.bytes s.d)]
structure Bf(H:Hp)(a:Addr)(A:BE)(s:Sn):Prop where
 o:H a=some (s.O A.c)
 co:Oa H A s.ids s.u
theorem Bf.ext{H:Hp}(x:Bf H a A s)(e:Ext H H'):Bf H' a A s:=⟨e _ _ x.o,x.co.ext e⟩
def Sn.oct(s:Sn):List UInt8:=vi s.i++vi s.t++tx (ju s.ids s.u)++tx s.d
def Sn.row(s:Sn):V:=.tup [.int s.i,.int s.t,.tup [.tup (iv s.ids),.tup [],.tup [],.tup [],.bool s.u],.bytes s.d]
theorem lh(h:rE m):big m:=by refine ay (eJ h) ?_;intro k e l;rw[e];exact du (JS l rfl)
theorem pQ(R:Rd af w K)(h:aB 0 n=true)(q:Q .none (upd H a (.inst 533 [(1,.int i),(0,.int t),(11,.ref c),(3,.bytes d)]))):aY af w K n 509 [.ref a,.int i,.int t,.ref c,.bytes d] (upd H a (.inst 533 [])) Q X:=by
 erw[R.uL.to rfl h,(n h),Zu,Zc rfl,Zc rfl,bQ us rfl rfl,Zu,Zc rfl,Zc rfl,bQ us rfl rfl,Zu,Zc rfl,Zc rfl,bQ us rfl rfl,Zu,Zc rfl,Zc rfl,bQ us rfl rfl,Ze];rw[bR,bR,bR,bR];exact cR Ext.refl q
theorem Ez(R:Rd af w K)(I:w9 s.ids)(h:Bf H a A s)(d:aB 1 n=true)(q:Q s.row H):aY af w K n 516 [.ref a] H Q X:=by
 erw[R.vQ.to rfl d,(n d)];have b:=h.o;have e:=h.co.c;unfold Sn.O BE.O at*;erw[Zt,iX rfl,Za,Zl rfl,aO b rfl rfl,Za,Zl rfl,aO b rfl rfl,Za,Zm,Zl rfl,aO b rfl rfl,bC e rfl,Zb,bt e rfl,EX R I h.co (lv d rfl),Za,Zl rfl,aO b rfl rfl,Zb,<-bH Ext.refl q]
structure YV(H:Hp)(a:Addr)(A:BE):Prop where
 o:H a=none
 co:Va H A
theorem CI(R:Rd af w K)(I:w9 s.ids)(h:Bf H a A s)(g:aB 3 n=true)(q:∀i k j,Ext H i->YV H k j->Bf i k j s->Q (.ref k) i):aY af w K n 530 [.ref a] H Q X:=by
 erw[R.uB.to rfl g,(n g)];have d:=h.o;have b:=h.co.c;unfold Sn.O BE.O at*;erw[Zt,ZQ,Za,Zl rfl,aO d rfl rfl,Za,Zl rfl,aO d rfl rfl,Za,Zm,Zl rfl,aO d rfl rfl,bC b rfl,Zb,bt b rfl,Cg R I h.co (lv g rfl),(i j e f M)];have v:=e _ _ d;erw[Za,Zl rfl,aO v rfl rfl,Zb,(c b),<-pQ R (lv g rfl) ⟨rfl,?_⟩,<-bH Ext.refl (q _ c j (Ext.fresh e (aI e b)) ⟨aI e b,f⟩ ⟨us,M.ext (Ext.fresh Ext.refl b)⟩)]
theorem AI(R:Rd af w K)(I:s.Ok)(h:Bf H a A s)(j:aB 5 n=true)(q:s.oct.length<=2000->Q (.bytes s.oct) H):aY af w K n 544 [.ref a] H Q X:=by
 erw[R.qU.to rfl j,(n j)];have g:=h.o;have M:=h.co;unfold Sn.O at*;erw[Zg,zT R (lv j rfl),(c p l k e)];have m:∀b,Ext H (upd (upd H c (qb p)) p (.cZ b)):=λb=>Ext.fresh (Ext.fresh Ext.refl l) k;have f:(upd H c (qb p)) c=some (.inst 344 [(4,.ref p)]):=us;erw[Zk,Zm,Zc rfl,bC (ae e f) rfl,Za,Zl rfl,aO (ae (ne_sn g k) (ae (ne_sn g l) g)) rfl rfl,Zb,bt (ae e f) rfl,<-sv R (lh I.i) (ae e f) (iU 0) rfl (lv j rfl) (λ_ l1=>?_) (λr=>absurd I.i r),Zk,Zm,Zc rfl,bC (ae e f) rfl,Za,Zl rfl,aO (ae (ne_sn g k) (ae (ne_sn g l) g)) rfl rfl,Zb,bt (ae e f) rfl,<-sv R (lh I.t) (ae e f) l1 rfl (lv j rfl) (λ_ l2=>?_) (λr=>absurd I.t r),Zk,Zm,Zc rfl,bC (ae e f) rfl,Za,Zq,Za,Zl rfl,aO (ae (ne_sn g k) (ae (ne_sn g l) g)) rfl rfl,Zb,AO R I.ids (M.ext (m _)) (lv j rfl),(u),Zb,bt (ae e f) rfl,sl R (ae e f) l2 rfl u rfl (lv j rfl),(l3),Zk,Zm,Zc rfl,bC (ae e f) rfl,Za,Zl rfl,aO (ae (ne_sn g k) (ae (ne_sn g l) g)) rfl rfl,Zb,bt (ae e f) rfl,sl R (ae e f) l3 rfl I.d rfl (lv j rfl),(l4),Zt,Zm,Zc rfl,bC (ae e f) rfl,Zb,bt (ae e f) rfl,sd R (ae e f) l4 rfl (lv j rfl),<-bH (m _) (q (aH l4 (dc rfl)))]
noncomputable def So:Option (List UInt8)->V
 |none=>.none
 |some d=>.bytes d
def JV:Option (List UInt8)->List UInt8
 |none=>[fb false]
 |some d=>[fb true]++tx d
theorem Cb(R:Rd af w K)(h:(upd G p (.cZ b)) a=some (qb p))(i:b.length<=L)(g:dN L 80000=true)(j:∀d,o=some d->d.length<=200)(f:aB 3 n=true)(q:(b++JV o).length<=L+211->Q .none (upd G p (.cZ (b++JV o)))):aY af w K n 638 [.ref a,So o] (upd G p (.cZ b)) Q X:=by
 erw[R.BG.to rfl f,(n f)];have g:=aE g;erw[aD (Ga h),(c e)]
 induction o using tT with
 |none=>
  unfold So;erw[Zk,Zm,Zc rfl,bC (ae c e) rfl,Za,Zad,Zc rfl,kY rfl,Zb,bt (ae c e) rfl,sf R (ae c e) i (d3.mpr (dK g rfl)) (lv f rfl),(l1),Zh,ZS,Zc rfl,kY rfl,Zi,Ze,Zd,Ze,<-cR Ext.refl (q (aH l1 (vD rfl)))]
 |some d=>
  unfold So;erw[Zk,Zm,Zc rfl,bC (ae c e) rfl,Za,Zad,Zc rfl,kY rfl,Zb,bt (ae c e) rfl,sf R (ae c e) i (d3.mpr (dK g rfl)) (lv f rfl),(l1),Zh,ZS,Zc rfl,kY rfl,Zp,Zk,Zm,Zc rfl,bC (ae c e) rfl,ZF rfl,bt (ae c e) rfl,sl R (ae c e) l1 (d3.mpr (OJ g rfl)) (j d rfl) rfl (lv f rfl),(l2)];rw[aC] at l2⊢;erw[Ze,Zd,Ze,<-cR Ext.refl (q (aH l2 (dJ [] (zp (zs av) (zk (zn 200) 10),zk av 211) rt)))]
end
section
variable{G:Hp}
def sU(af:eA)(w:bY)(K:fg)(n:Nat)(elt:E)(cond:Option E)(ρ:Loc)(Q:V->Hp->Prop)(v:V)(H':Hp):Prop:=match v with
 | .ref a=>(match H' a with
   |some (.list vs)=>vs.length<=1000/\j8 (λv H Q=>dk af w K aG n elt (upd ρ 1000 v) H Q Du) (λv H Q=>wpC af w K aG n cond (upd ρ 1000 v) H Q Du) (λcI=>cI a=some (.list vs)) vs [] H' λcL cI=>∀c,cI c=none->Q (.ref c) (upd cI c (.list cL))
   |_=>False)
 |_=>False
theorem ZJ{cond:Option E}(h:dk af w K aG n it ρ H (λv a=>sU af w K n elt cond ρ Q v a) X):dk af w K aG n (.comp elt it cond) ρ H Q X:=h
def L_(af:eA)(w:bY)(K:fg)(n:Nat)(elt:E)(ρ:Loc)(Q:V->Hp->Prop)(v:V)(H':Hp):Prop:=∃k,v=.int k/\0<=k/\k<=1000/\
   j8 (λv H Q=>dk af w K aG n elt (upd ρ 1000 v) H Q Du) (λ_ H Q=>Q true H) (λ_=>True) (gH 0 k) [] H' λcL cI=>∀c,cI c=none->Q (.ref c) (upd cI c (.list cL))
theorem Zag(h:dk af w K aG n hi ρ H (λv a=>L_ af w K n elt ρ Q v a) X):dk af w K aG n (.j6 elt hi) ρ H Q X:=h
theorem mD(I:List V->List V->Hp->Prop):∀(vs a:List V) {H:Hp},I vs a H->(∀a H,I [] a H->F a H)->
  (∀v r a H,I (v::r) a H->∀G:V->Hp->Prop,(∀x b,qV b->I r (a++[x]) b->G x b)->elt v H G)->j8 elt (λ_ H Q=>Q true H) qV vs a H F
 |[],a,H,h,h0,_=>h0 _ _ h
 |v::vs,a,H,h,h0,hs=>by
  exact hs v vs a H h (λx d=>qV d/\j8 elt (λ_ H Q=>Q true H) qV vs (a++[x]) d F) λx b c i=>⟨c,mD I vs _ i h0 hs⟩
theorem comp_map(f:V->V)(h:H a=some (.list vs))(l:vs.length<=1000)(i:∀v∈vs,∀G:V->Hp->Prop,G (f v) H->dk af w K aG n elt (upd ρ 1000 v) H G Du)(q:∀c,H c=none->Q (.ref c) (upd H c (.list (vs.map f)))):sU af w K n elt none ρ Q (.ref a) H:=by
 unfold sU;dsimp only;erw[aj h,<-⟨l,mD (λr b d=>d=H/\∃done,done++r=vs/\b=done.map f) vs [] ⟨rfl,[],rfl,rfl⟩ (λb d=>gk λe=>bI λdone e1 e2=>?_) λv r b d=>gk λe=>bI λdone e1 e2 G g=>?_⟩]
 ·subst e;rw[a_] at e1;replace e1:=e1.symm;subst e1;subst e2;exact q
 ·subst e;exact i v (by erw[c_ e1];simp) G (g _ _ h ⟨rfl,done++[v],by erw[c_ e1];simp,by erw[aj e2];simp⟩)
theorem sS(h:H a=some (.list vs))(l:vs.length<=1000)(I:List V->List V->Hp->Prop)(h1:I vs [] H)(h0:∀b H,I [] b H->∀c,H c=none->Q (.ref c) (upd H c (.list b)))(e:∀v r b H,I (v::r) b H->∀G:V->Hp->Prop,(∀x d,d a=some (.list vs)->I r (b++[x]) d->G x d)->dk af w K aG n elt (upd ρ 1000 v) H G Du):sU af w K n elt none ρ Q (.ref a) H:=by
 unfold sU;dsimp only;erw[aj h,<-⟨l,mD I vs [] h1 h0 e⟩]
theorem JC(f:V->V)(l:k<=1000)(j:∀i:Nat,i<k->∀G:V->Hp->Prop,G (f (.int i)) H->dk af w K aG n elt (upd ρ 1000 (.int i)) H G Du)(q:∀c,H c=none->Q (.ref c) (upd H c (.list ((gp k).map λi:Nat=>f (.int i))))):L_ af w K n elt ρ Q (.int (k:Int)) H:=by
 refine⟨k,rfl,ir,WI l,?_⟩;have e:gH 0 k=(gp k).map λi:Nat=>V.int i:=by
  exact dQ λi _=>by rw[Int.zero_add]
 erw[aj e,<-mD (λr a b=>b=H/\∃done,done++r=(gp k).map (λi:Nat=>V.int i)/\a=done.map f) _ [] ⟨rfl,[],rfl,rfl⟩ (λa b=>gk λe=>bI λdone e1 e2=>?_) λv r a b=>gk λe=>bI λdone e1 e2 G g=>?_]
 ·subst e;rw[a_] at e1;subst e1;subst e2;erw[aj eg,<-q]
 ·subst e;have h:v∈(gp k).map (λi:Nat=>V.int i):=by refine' c_ e1 ?_;simp
  erw[ay (cK.mp h),(i d m)];subst m;exact j i (List.mem_range.mp d) G (g _ _ trivial ⟨rfl,done++[V.int i],by erw[c_ e1];rewrite[aC];rfl,by erw[aj e2,aj aX];rfl⟩)
noncomputable def dD(h:Nat->Int)(me:Addr)(sn:V)(rej:Bool)(cj:List UInt8):MO:=
 .inst 578 [(2,.int (h 0)),(12,.int (h 1)),(13,.int (h 2)),(0,.int (h 3)),(14,.int (h 4)),(1,.int (h 5)),(15,.ref me),(16,.int (h 6)),(17,sn),(18,.bool rej),(19,.int (h 7)),(20,.bytes cj)]
theorem nW(R:Rd af w K)(g:H m=none)(h:aB 0 n=true)(q:∀e,H e=none->m≠e->Q .none (upd (upd H e (.list [])) m (dD (λj=>match j with|0=>a|1=>b|2=>c|3=>d|_=>0) e .none false []))):aY af w K n 565 [.ref m,.int a,.int b,.int c,.int d] (upd H m (.inst 578 [])) Q X:=by
 erw[R.wL.to rfl h,(n h),bQ us rfl rfl,bQ us rfl rfl,bQ us rfl rfl,bQ us rfl rfl,bQ us rfl rfl,bQ us rfl rfl,Zu,eP rfl,(e O),aD (bo O),(h1 f),aD (bo h1),(h2 _),aD (bo h2),(h3 _),aD (bo h3),(h4 _),aD (bo h4),(h5 _),aD (bo h5),(h6 _),aD (bo h6),(h7 _),Zc rfl,bQ (ae (aJ f) us) rfl rfl,bQ us rfl rfl,bQ us rfl rfl,bQ us rfl rfl,bQ us rfl rfl,bQ us rfl rfl,cR Ext.refl];have:=q e h7 (aJ f)
 repeat rw[bR]
 erw[aj (fw (aJ f))];rewrite[bR];exact this
noncomputable def aT(l:List Addr):List V:=l.map .ref
def dT(H:Hp):List Addr->List En->Prop
 |[],[]=>True
 |e::es,x::xs=>H e=some x.o/\dT H es xs
 |_,_=>False
theorem dT.ext{H:Hp}(k:Ext H H'):∀{es:List Addr} {xs:List En},dT H es xs->dT H' es xs
 |[],[],_=>trivial
 |_::_,_::_,h=>⟨k _ _ h.1,dT.ext k h.2⟩
 |[],_::_,h=>h.elim
 |_::_,[],h=>h.elim
theorem dT.length{H:Hp}:∀{es:List Addr} {xs:List En},dT H es xs->es.length=xs.length
 |[],[],_=>rfl
 |_::_,_::_,h=>congrArg (· +1) (dT.length h.2)
 |[],_::_,h=>h.elim
 |_::_,[],h=>h.elim
inductive EK(H:Hp):V->Option Sn->Prop
 |none:EK H .none none
 |some {a:Addr} {A:BE} {s:Sn}:Bf H a A s->EK H (.ref a) (some s)
theorem EK.ext{H:Hp}(k:Ext H H')(x:EK H v s):EK H' v s:=by
 induction x using EK.casesOn with
 |none=>exact .none
 |some h=>exact .some (h.ext k)
def y3:Option Sn->List UInt8
 |none=>[fb false]
 |some s=>[fb true]++tx s.oct
def xk(h:Nat->Int)(xs:List En)(sn:Option Sn)(rej:Bool)(cj:List UInt8):List UInt8:=
 vi (h 0)++vi (h 1)++vi (h 2)++vi (h 3)++vi (h 4)++vi (h 5)++vi (h 6)++vi (h 7)++[fb rej]++vr xs.length++(xs.map λx=>tx x.oct).flatten++y3 sn++tx cj
noncomputable def FW:Option Sn->V
 |none=>.none
 |some s=>s.row
def CA(h:Nat->Int)(xs:List En)(sn:Option Sn)(rej:Bool)(cj:List UInt8):V:=
 .tup [.int (h 0),.int (h 1),.int (h 2),.int (h 3),.int (h 4),.int (h 5),.tup (xs.map λx=>.tup x.vs),.int (h 6),FW sn,.bool rej,.int (h 7),.bytes cj]
structure De(h:Nat->Int)(xs:List En)(sn:Option Sn)(cj:List UInt8):Prop where
 hb:∀j,j<8->big (h j)
 xb:∀x∈xs,x.An
 len:xs.length<=10
 sb:∀s,sn=some s->s.Ok
 cb:cj.length<=200
structure EM(h:Nat->Int)(xs:List En):Prop where
 hi:∀j,j<8->rE (h j)
 xi:∀x∈xs,x.In
theorem fS(R:Rd af w K)(a:H m=some (dD h me v rej cj))(C:H me=some (.list (aT es)))(J:dT H es xs)(hs:EK H v sn)(B:De h xs sn cj)(i:aB 6 n=true)(q:EM h xs->Q (.bytes (xk h xs sn rej cj)) H)(x:¬EM h xs->X 80 H):aY af w K n 589 [.ref m] H Q X:=by
 erw[R.s9.to rfl i,(n i)];unfold dD at*;have A:(aT es).length<=10:=by unfold aT;rewrite[aq];refine' aj J.length ?_;exact B.len
 erw[Zg,zT R (lv i rfl),(c p l k f)];have o:∀b,Ext H (upd (upd H c (qb p)) p (.cZ b)):=λb=>Ext.fresh (Ext.fresh Ext.refl l) k;have g:(upd H c (qb p)) c=some (.inst 344 [(4,.ref p)]):=us;erw[bC (ae f g) rfl,Za,Zl rfl,aO (ae (ne_sn a k) (ae (ne_sn a l) a)) rfl rfl,Zb,bt (ae f g) rfl,<-sv R (B.hb 0 (dc rfl)) (ae f g) (iU 0) rfl (lv i rfl) (λr0 l0=>?_) (λr=>xe (o _) (x λy=>r (y.hi 0 (dc rfl)))),bC (ae f g) rfl,Za,Zl rfl,aO (ae (ne_sn a k) (ae (ne_sn a l) a)) rfl rfl,Zb,bt (ae f g) rfl,<-sv R (B.hb 1 (dc rfl)) (ae f g) l0 rfl (lv i rfl) (λr1 l1=>?_) (λr=>xe (o _) (x λy=>r (y.hi 1 (dc rfl)))),bC (ae f g) rfl,Za,Zl rfl,aO (ae (ne_sn a k) (ae (ne_sn a l) a)) rfl rfl,Zb,bt (ae f g) rfl,<-sv R (B.hb 2 (dc rfl)) (ae f g) l1 rfl (lv i rfl) (λr2 l2=>?_) (λr=>xe (o _) (x λy=>r (y.hi 2 (dc rfl)))),bC (ae f g) rfl,Za,Zl rfl,aO (ae (ne_sn a k) (ae (ne_sn a l) a)) rfl rfl,Zb,bt (ae f g) rfl,<-sv R (B.hb 3 (dc rfl)) (ae f g) l2 rfl (lv i rfl) (λr3 l3=>?_) (λr=>xe (o _) (x λy=>r (y.hi 3 (dc rfl)))),Zk,Zm,Zc rfl,bC (ae f g) rfl,Za,Zl rfl,aO (ae (ne_sn a k) (ae (ne_sn a l) a)) rfl rfl,Zb,bt (ae f g) rfl,<-sv R (B.hb 4 (dc rfl)) (ae f g) l3 rfl (lv i rfl) (λr4 l4=>?_) (λr=>xe (o _) (x λy=>r (y.hi 4 (dc rfl)))),Zk,Zm,Zc rfl,bC (ae f g) rfl,Za,Zl rfl,aO (ae (ne_sn a k) (ae (ne_sn a l) a)) rfl rfl,Zb,bt (ae f g) rfl,<-sv R (B.hb 5 (dc rfl)) (ae f g) l4 rfl (lv i rfl) (λr5 l5=>?_) (λr=>xe (o _) (x λy=>r (y.hi 5 (dc rfl)))),Zk,Zm,Zc rfl,bC (ae f g) rfl,Za,Zl rfl,aO (ae (ne_sn a k) (ae (ne_sn a l) a)) rfl rfl,Zb,bt (ae f g) rfl,<-sv R (B.hb 6 (dc rfl)) (ae f g) l5 rfl (lv i rfl) (λr6 l6=>?_) (λr=>xe (o _) (x λy=>r (y.hi 6 (dc rfl)))),Zk,Zm,Zc rfl,bC (ae f g) rfl,Za,Zl rfl,aO (ae (ne_sn a k) (ae (ne_sn a l) a)) rfl rfl,Zb,bt (ae f g) rfl,<-sv R (B.hb 7 (dc rfl)) (ae f g) l6 rfl (lv i rfl) (λY l7=>?_) (λr=>xe (o _) (x λy=>r (y.hi 7 (dc rfl)))),Zk,Zm,Zc rfl,bC (ae f g) rfl,Za,Zl rfl,aO (ae (ne_sn a k) (ae (ne_sn a l) a)) rfl rfl,Zb,bt (ae f g) rfl,sf R (ae f g) l7 rfl (lv i rfl),(l8),Zk,Zm,Zc rfl,bC (ae f g) rfl,aO (ae (ne_sn a k) (ae (ne_sn a l) a)) rfl rfl,Zb,dV (ae (ne_sn C k) (ae (ne_sn C l) C)) (dK A rfl),Zb,bt (ae f g) rfl];have hl:(aT es).length=xs.length:=by unfold aT;rewrite[aq];refine' aj J.length ?_;rfl
 refine sv R (lh ⟨ir,Xz A⟩) (ae f g) l8 rfl (lv i rfl) (λ_ l9=>?_) (λr=>absurd ⟨ir,Xz A⟩ r);rw[hl,gN] at l9⊢;have W:∀j,j<8->rE (h j):=λj hj=>by
  refine Vx hj ?_ ?_ ?_ ?_ ?_ ?_ ?_ ?_
  ·exact r0
  ·exact r1
  ·exact r2
  ·exact r3
  ·exact r4
  ·exact r5
  ·exact r6
  ·exact Y
 generalize L:(vi (h 0)++vi (h 1)++vi (h 2)++vi (h 3)++vi (h 4)++vi (h 5)++vi (h 6)++vi (h 7)++[fb rej]++vr xs.length)=b0;have I:b0.length<=91:=by refine' c_ L ?_;exact l9
 rewrite[jA];erw[aj L,Z_,Zl rfl,aO (ae (ne_sn a k) (ae (ne_sn a l) a)) rfl rfl];refine Fs (o _ _ _ C) (dK A rfl) (λs ρ F=>∃ZE t u z,s=aT ZE/\t++u=xs/\dT H ZE u/\(∀x∈t,x.In)/\ρ 0=some (.ref m)/\ρ 1=some (.ref c)/\F=upd (upd H c (qb p)) p (.cZ z)/\z=b0++(t.map λx=>tx x.oct).flatten/\z.length<=91+310*t.length)
  ⟨es,[],xs,_,rfl,rfl,J,(λ_ h=>nomatch h),rfl,rfl,rfl,by simp,fe [(av,zn 91)] (av,zp (zn 91) aW) rt I⟩ (λρ F=>(LO · λZE t u z e1 e2 e3 e4 e5 e6 e7 e8 M=>?_)) λv s ρ F ih=>(LO · λZE t u z e1 e2 e3 e4 e5 e6 e7 e8 M=>?_)
 ·induction ZE using lcs with
  |cons=>injection e1
  |nil=>
   induction u using lcs with
   |cons=>exact e3.elim
   |nil=>
    rw[a_] at e2;replace e2:=e2.symm;subst e2;subst e7;have U:=B.len;have Vf:z.length<=3191:=by exact gF [(zm 310 av,zm 310 aW),(zm 310 aW,zm 310 (zn 10)),(bT,zp (zn 91) (zm 310 av))] (bT,zn 3191) rt (aP 310 (aa (ao hl))) (aP 310 A) M
    have D:∀G,G.length<=5402->G=z++y3 sn->aY af w K n 313 [.ref c,.bytes cj] (upd (upd H c (qb p)) p (.cZ G)) (λx F=>bO af w K aG n [S.ret (some ((E.loc 1).bp 7 []))] ρ F (dE Q) (cG X)) (cG X):=λG lb eb=>by
     erw[sl R (ae f g) lb rfl B.cb rfl (lv i rfl),(We),Zt,Zm,<-Zc e6 ?_,bC (ae f g) rfl,Zb,bt (ae f g) rfl,sd R (ae f g) We rfl (lv i rfl)];have:=q ⟨W,e4⟩;unfold xk at this;rw[L,<-e8,<-eb] at this;exact bH (o _) this
    induction hs using EK.casesOn with
    |none=>
     erw[Zk,Zm,<-Zc e6 ?_,bC (ae f g) rfl,Za,Zad,<-Zl e5 ?_,aO (ae (ne_sn a k) (ae (ne_sn a l) a)) rfl rfl,kY rfl,Zb,bt (ae f g) rfl,sf R (ae f g) Vf rfl (lv i rfl),(YX),Zh,ZS,<-Zl e5 ?_,aO (ae (ne_sn a k) (ae (ne_sn a l) a)) rfl rfl,kY rfl,Zi,Ze,Zd,Zk,Zm,<-Zc e6 ?_,bC (ae f g) rfl,Za,<-Zl e5 ?_,aO (ae (ne_sn a k) (ae (ne_sn a l) a)) rfl rfl,Zb,bt (ae f g) rfl,<-D _ (aH YX (dc rfl)) rfl]
    |some V=>
     erw[Zk,Zm,<-Zc e6 ?_,bC (ae f g) rfl,Za,Zad,<-Zl e5 ?_,aO (ae (ne_sn a k) (ae (ne_sn a l) a)) rfl rfl,kY rfl,Zb,bt (ae f g) rfl,sf R (ae f g) Vf rfl (lv i rfl),(YX),Zh,ZS,<-Zl e5 ?_,aO (ae (ne_sn a k) (ae (ne_sn a l) a)) rfl rfl,kY rfl,Zp,Zk,Zm,<-Zc e6 ?_,bC (ae f g) rfl,<-Zl e5 ?_,aO (ae (ne_sn a k) (ae (ne_sn a l) a)) rfl rfl,Zb,AI R (B.sb _ rfl) (V.ext (o _)) (lv i rfl),(ls),Zb,bt (ae f g) rfl,sl R (ae f g) YX rfl ls rfl (lv i rfl),(We),Ze,Zd,Zk,Zm,<-Zc e6 ?_,bC (ae f g) rfl,Za,<-Zl e5 ?_,aO (ae (ne_sn a k) (ae (ne_sn a l) a)) rfl rfl,Zb,bt (ae f g) rfl,<-D _ (aH We (dc rfl)) (by rw[aC];rfl)]
 ·induction ZE using lcs with
  |nil=>injection e1
  |cons e ZE=>
   induction u using lcs with
   |nil=>exact e3.elim
   |cons O u=>
    injection e1 with e1 Jg
    replace e1:=e1.symm;subst e1;replace Jg:=Jg.symm;subst Jg;subst e7;have T:=congrArg cF e2;rw[ah,aU] at T;have U:=B.len;have N:O∈xs:=by refine' c_ e2 ?_;simp
    erw[Zk,Zm,<-Zc e6 ?_,bC (ae f g) rfl,Za,Zz rfl,<-jb R (o _ _ _ e3.1) (B.xb _ N) (lv i rfl) (λP=>?_) (λr=>xe (o _) (x λy=>r (y.xi _ N))),Zb,bt (ae f g) rfl,sl R (ae f g) M (d3.mpr (gF [(zm 310 (zp av (zs aW)),zm 310 bT),(zm 310 bT,zm 310 (zn 10))] (zp (zn 91) (zm 310 av),zn 90000) rt (aP 310 (aa T)) (aP 310 U))) (En.gK (B.xb _ N).d P) rfl (lv i rfl),(Vf),Ze,<-⟨o _ _ _ C,ih _ _ ⟨ZE,t++[O],u,_,rfl,by erw[c_ e2];rewrite[aC];rfl,e3.2,λy hy=>?_,e5,e6,rfl,?_,?_⟩⟩]
    ·rcases cC.mp hy with hy|hy
     ·exact e4 y hy
     ·erw[aj (aR.mp hy),<-P]
    ·erw[aj e8,aj aX,aj jo];simp
    ·erw[aj (ah (as:=t)),aj aV,<-fe [(av,zp (zp (zn 91) (zm 310 aW)) (zk (zn 300) 10))] (av,zp (zn 91) (zm 310 (zs aW))) rt Vf]
end
section
variable{G:Hp}
theorem dT.mem{H:Hp}:∀{es:List Addr} {xs:List En} {e:Addr},dT H es xs->e∈es->∃x∈xs,H e=some x.o
 |e::es,x::xs,e',h,hm=>by
  rcases bE.mp hm with q|q
  ·subst q;exact⟨x,j4,h.1⟩
  ·erw[ay (dT.mem h.2 q),(y a r),<-⟨y,fR a,r⟩]
 |[],_,_,_,hm=>by cases hm
 |_::_,[],_,h,_=>h.elim
theorem dT.app{H:Hp}:∀{es q:List Addr} {xs x:List En},dT H es xs->dT H q x->dT H (es++q) (xs++x)
 |[],_,[],_,_,h=>h
 |_::_,_,_::_,_,h,h'=>⟨h.1,dT.app h.2 h'⟩
 |[],_,_::_,_,h,_=>h.elim
 |_::_,_,[],_,h,_=>h.elim
theorem Aj(f:En->V)(h:H a=some (.list (aT es)))(l:xs.length<=1000)(k:dT H es xs)(m:∀e x,x∈xs->H e=some x.o->∀G:V->Hp->Prop,G (f x) H->dk af w K aG n elt (upd ρ 1000 (.ref e)) H G Du)(q:∀c,H c=none->Q (.ref c) (upd H c (.list (xs.map f)))):sU af w K n elt none ρ Q (.ref a) H:=by
 have hl:(aT es).length<=1000:=by unfold aT;rewrite[aq];refine' aj k.length ?_;exact l
 refine sS h hl (λr d j=>j=H/\∃ZE b i,r=aT ZE/\b++i=xs/\d=b.map f/\dT H ZE i) ⟨rfl,es,[],xs,rfl,rfl,rfl,k⟩ (λd j=>gk λe=>(mR · λZE b i e1 e2 e3 e4=>?_)) λv r d j=>gk λe=>(mR · λZE b i e1 e2 e3 e4 G g=>?_)
 ·replace e:=e.symm;subst e
  induction ZE using lcs with
  |cons=>injection e1
  |nil=>
   induction i using lcs with
   |cons=>exact e4.elim
   |nil=>
    rw[a_] at e2;replace e2:=e2.symm;subst e2;subst e3;exact q
 ·replace e:=e.symm;subst e
  induction ZE using lcs with
  |nil=>injection e1
  |cons e ZE=>
   induction i using lcs with
   |nil=>exact e4.elim
   |cons x i=>
    injection e1 with e1 e5
    subst e1;subst e5;exact m e x (by erw[c_ e2];simp) e4.1 G (g _ _ h ⟨rfl,ZE,b++[x],i,rfl,by erw[c_ e2];rewrite[aC];rfl,by erw[aj e3,aj aX];rfl,e4.2⟩)
theorem zS(R:Rd af w K)(a:H m=some (dD h me v rej cj))(d:H me=some (.list (aT es)))(l:dT H es xs)(p:EK H v sn)(k:xs.length<=10)(r:∀s,sn=some s->w9 s.ids)(f:aB 2 n=true)(q:Q (CA h xs sn rej cj) H):aY af w K n 570 [.ref m] H Q X:=by
 erw[R.ye.to rfl f,(n f)];unfold dD at*;erw[Zg,ZL,Za,ZJ,Zl rfl,aO a rfl rfl,<-Aj (λx=>.tup x.vs) d (dK k rfl) l (λe x l d G g=>?_) λc b=>?_]
 ·erw[Zm,Zc rfl];unfold En.o at d;erw[bC d rfl,Zb,bt d rfl,<-jE R d (lv f rfl) g]
 ·erw[Zb,gf us (by rw[aq];exact dK k rfl)];have i:Ext H (upd H c (.list (xs.map λx=>.tup x.vs))):=Ext.fresh Ext.refl b;erw[Z1 rfl,Zh,ZS,Zl rfl,aO (ae (ne_sn a b) a) rfl rfl]
  induction p using EK.casesOn with
  |none=>
   erw[kY rfl,Zi,Ze,Zd,Zt,iX rfl,Za,Zl rfl,aO (ae (ne_sn a b) a) rfl rfl,Za,Zl rfl,aO (ae (ne_sn a b) a) rfl rfl,Za,Zl rfl,aO (ae (ne_sn a b) a) rfl rfl,Za,Zl rfl,aO (ae (ne_sn a b) a) rfl rfl,Za,Zl rfl,aO (ae (ne_sn a b) a) rfl rfl,Za,Zl rfl,aO (ae (ne_sn a b) a) rfl rfl,Zr rfl,Za,Zl rfl,aO (ae (ne_sn a b) a) rfl rfl,Zr rfl,Za,Zl rfl,aO (ae (ne_sn a b) a) rfl rfl,Za,Zl rfl,aO (ae (ne_sn a b) a) rfl rfl,Za,Zl rfl,aO (ae (ne_sn a b) a) rfl rfl,Zb,<-bH i q]
  |some j=>
   have L:=i _ _ j.o;unfold Sn.O at L;erw[kY rfl,Zp,Zg,Zm,Zl rfl,aO (ae (ne_sn a b) a) rfl rfl,bC L rfl,Zb,bt L rfl,Ez R (r _ rfl) (j.ext i) (lv f rfl),Ze,Zd,Zt,iX rfl,Za,Zl rfl,aO (ae (ne_sn a b) a) rfl rfl,Za,Zl rfl,aO (ae (ne_sn a b) a) rfl rfl,Za,Zl rfl,aO (ae (ne_sn a b) a) rfl rfl,Za,Zl rfl,aO (ae (ne_sn a b) a) rfl rfl,Za,Zl rfl,aO (ae (ne_sn a b) a) rfl rfl,Za,Zl rfl,aO (ae (ne_sn a b) a) rfl rfl,Zr rfl,Za,Zl rfl,aO (ae (ne_sn a b) a) rfl rfl,Zr rfl,Za,Zl rfl,aO (ae (ne_sn a b) a) rfl rfl,Za,Zl rfl,aO (ae (ne_sn a b) a) rfl rfl,Za,Zl rfl,aO (ae (ne_sn a b) a) rfl rfl,Zb,<-bH i q]
structure Px(H:Hp)(m me:Addr)(es:List Addr):Prop where
 fm:H m=none
 S0:H me=none
 fes:∀e∈es,H e=none
 nd:es.Nodup
structure CoN(me:Addr)(A:BE):Prop where
 v:me≠A.v
 l:me≠A.l
 o:me≠A.o
 n:me≠A.n
theorem Va.ne(f:Va H A)(h:H me=some mo):CoN me A:=⟨ne_sn h f.v,ne_sn h f.l,ne_sn h f.o,ne_sn h f.n⟩
inductive A2(H H':Hp)(me:Addr):V->Option Sn->Prop
 |none:A2 H H' me .none none
 |some {a:Addr} {A:BE} {s:Sn}:YV H a A->Bf H' a A s->CoN me A->A2 H H' me (.ref a) (some s)
theorem A2.ext{H:Hp}(x:A2 H H' me v s)(e:Ext H' cI):A2 H cI me v s:=by
 induction x using A2.casesOn with
 |none=>exact .none
 |some f h c=>exact .some f (h.ext e) c
theorem fQ(h:H a=some x)(k:H b=some y)(n:x≠y):a≠b:=λe=>by
 rw[e,k] at h;exact n (bV h).symm
theorem dT.set{H:Hp}(h:H a=some y)(n:∀x:En,x.o≠y):∀{es:List Addr} {xs:List En},dT H es xs->dT (upd H a z) es xs
 |[],[],_=>trivial
 |_::_,x::_,k=>⟨ae (fQ k.1 h (n x)) k.1,dT.set h n k.2⟩
 |[],_::_,k=>k.elim
 |_::_,[],k=>k.elim
theorem Bf.set(h:H m=some (.inst 578 fs))(x:Bf H a A s):Bf (upd H m z) a A s:=
 ⟨ae (fQ x.o h (by intro q;cases q)) x.o,ae (fQ x.co.c h (by intro q;cases q)) x.co.c,ae (fQ x.co.v h (by intro q;injection q)) x.co.v,ae (fQ x.co.l h (by intro q;injection q)) x.co.l,ae (fQ x.co.o h (by intro q;injection q)) x.co.o,ae (fQ x.co.n h (by intro q;injection q)) x.co.n⟩
theorem A2.set{H:Hp}(h:H' m=Option.some (MO.inst 578 fs))(x:A2 H H' me v s):A2 H (upd H' m z) me v s:=by
 induction x using A2.casesOn with
 |none=>exact A2.none
 |some f k c=>exact A2.some f (k.set h) c
theorem E0(R:Rd af w K)(hm:H m=some (dD h me v rej cj))(Y:H me=some (.list (aT es)))(hx:dT H es xs)(hs:EK H v sn)(hz:xs.length<=10)(ho:∀s,sn=some s->w9 s.ids)(M:aB 4 n=true)(q:∀k W U i B,Ext H k->Px H W U i->k W=some (dD h U B rej cj)->k U=some (.list (aT i))->dT k i xs->A2 H k U B sn->W≠U->Q (.ref W) k):aY af w K n 575 [.ref m] H Q X:=by
 erw[R.wF.to rfl M,(n M)];have a:=hm;unfold dD at*;erw[Zg,ZQ,Za,Zl rfl,aO a rfl rfl,Za,Zl rfl,aO a rfl rfl,Za,Zl rfl,aO a rfl rfl,Za,Zl rfl,aO a rfl rfl,Zb,(c f),<-nW R f (lv M rfl) λd hd ne=>⟨rfl,?_⟩];unfold dD;have nd:=aJ ne;erw[Zu,Zl rfl,aO (ae (ne_sn a f) (ae (ne_sn a hd) a)) rfl rfl,Zc rfl,bQ us rfl rfl,Zu,Zl rfl,aO (ae (ne_sn a f) (ae (ne_sn a f) (ae (ne_sn a hd) a))) rfl rfl,Zc rfl,bQ us rfl rfl,Zu,ZJ,Zl rfl,aO (ae (ne_sn a f) (ae (ne_sn a f) (ae (ne_sn a f) (ae (ne_sn a hd) a)))) rfl rfl];rw[bR,bR];generalize hO:(MO.inst 578 _)=O1;have e0:Ext H (upd (upd H d (.list [])) c O1):=Ext.fresh (Ext.fresh Ext.refl hd) f;generalize hHc:upd (upd H d (.list [])) c O1=Hc at e0;have Cu:Hc c=some O1:=by refine' c_ hHc ?_;exact us
 refine sS (e0 _ _ Y) (by unfold aT;rewrite[aq];erw[aj hx.length,<-dK hz rfl]) (λu cL k=>Ext Hc k/\∃ZE C z i,u=aT ZE/\cL=aT i/\C++z=xs/\dT k ZE z/\dT k i C/\(∀e∈i,Hc e=none)/\i.Nodup)
  ⟨Ext.refl,es,[],xs,[],rfl,rfl,rfl,hx.ext e0,trivial,(λ_ h=>nomatch h),o5⟩ (λcL k=>gk λt=>(MD · λZE C z i e1 e2 e3 e4 e5 e6 e7=>?_)) λv u cL k=>gk λt=>(MD · λZE C z i e1 e2 e3 e4 e5 e6 e7 G g=>?_)
 ·cases ZE with
  |cons=>injection e1
  |nil=>
   induction z using lcs with
   |cons=>exact e4.elim
   |nil=>
    rw[a_] at e3;subst e3;subst e2;intro S R6;have N:=t _ _ Cu;rw[<-hO] at N;have J:=ne_sn N R6;have T:=aI e0 (aI t R6);have r:∀O,Ext H (upd (upd k S (.list (aT i))) c O):=λO=>Ext.fresh (Ext.fresh (e0.trans t) T) f;have P:∀A B,Ext H A->A c=some (dD (λj=>if j=7 then 0 else h j) S B false [])->A S=some (.list (aT i))->dT A i C->A2 H A S B sn->
      bO af w K aG n [.cD bA 18 (.attr aN 18),.cD bA 19 (.attr aN 19),.cD bA 20 (.attr aN 20),dj bA] (upd (sr ([.ref m]++[])) 1 (.ref c)) A (dE Q) (cG X):=λA B a1 a2 a3 a4 a5=>by
     have W_:=a1 _ _ hm;unfold dD at a2;erw[Zu,Zl rfl,aO W_ rfl rfl,Zc rfl,bQ a2 rfl rfl,Zu,Zl rfl,aO (ae (ne_sn a f) W_) rfl rfl,Zc rfl,bQ us rfl rfl,Zu,Zl rfl,aO (ae (ne_sn a f) (ae (ne_sn a f) W_)) rfl rfl,Zc rfl,bQ us rfl rfl,ZO rfl];rw[bR,bR];refine bH Ext.refl (q _ c S i B (Ext.fresh a1 f) ⟨f,T,λe Y=>aI e0 (e6 e Y),e7⟩ (us.trans ?_) (ae (aJ J) a3) ?_ ?_ J)
     ·rfl
     ·exact a4.set a2 (λx q=>by cases q)
     ·exact a5.set a2
    have D:=t _ _ (e0 _ _ hm);have L:(upd k S (.list (aT i))) c=some O1:=ae J (t _ _ Cu);rw[<-hO] at L;erw[Zc rfl,bQ L rfl rfl,Zu,Zl rfl,aO (ae (ne_sn a f) (ae (ne_sn a T) D)) rfl rfl,Zc rfl,bQ us rfl rfl,Zh,ZS,Zl rfl,aO (ae (ne_sn a f) (ae (ne_sn a f) (ae (ne_sn a T) D))) rfl rfl];rw[bR];have h15:∀O,dT (upd (upd k S (.list (aT i))) c O) i C:=λO=>(e5.ext (Ext.fresh Ext.refl R6)).set L (λx q=>by cases q)
    induction hs using EK.casesOn with
    |none=>
     erw[kY rfl,Zi,Ze,Zd,<-P _ .none (r _) us (ae (aJ J) us) (h15 _) .none]
    |some xd=>
     erw[kY rfl,Zp];have LB:=λO=>(xd.ext (r O));have p:=λO=>(LB O).o;unfold Sn.O at p;erw[Zu,Zm,Zl rfl,aO (ae (ne_sn a f) (ae (ne_sn a T) D)) rfl rfl,<-fj (p _) ⟨rfl,?_⟩,Zb,bt (p _) rfl,CI R (ho _ rfl) (LB _) (lv M rfl),(A a3 A3 V I s3)];have F:=V _ _ us;erw[Zc rfl,bQ F rfl rfl,Ze,<-P _ (.ref a3) (Ext.fresh ((r _).trans V) f) us (ae (aJ J) (V _ _ (ae (aJ J) us))) ?_ ?_]
     ·exact((h15 _).ext V).set F (λx q=>by cases q)
     ·exact .some ⟨aI (r _) I.o,⟨aI (r _) I.co.c,aI (r _) I.co.v,aI (r _) I.co.l,aI (r _) I.co.o,aI (r _) I.co.n⟩⟩ (s3.set F) (I.co.ne (ae (aJ J) us))
 ·induction ZE using lcs with
  |nil=>injection e1
  |cons e ZE=>
   induction z using lcs with
   |nil=>exact e4.elim
   |cons x z=>
    injection e1 with e1 e8
    subst e1;subst e8;subst e2;erw[Zm,Zc rfl];have E:=e4.1;unfold En.o at E;erw[bC E rfl,Zb,bt E rfl,oQ R e4.1 (lv M rfl),(c2 L)];have QP:Ext k (upd k c2 x.o):=Ext.fresh Ext.refl L;refine g _ _ (QP _ _ (t _ _ (e0 _ _ Y))) ⟨t.trans QP,ZE,C++[x],z,i++[c2],rfl,by unfold aT;erw[aj aX];rfl,by erw[c_ e3];rewrite[aC];rfl,e4.2.ext QP,dT.app (e5.ext QP) ⟨us,trivial⟩,λb hb=>?_,?_⟩
    ·rcases cC.mp hb with hb|hb
     ·exact e6 b hb
     ·erw[aj (aR.mp hb),<-aI t L]
    ·refine iH.mpr ⟨e7,by simp,λb hb d' hd' q=>?_⟩;rw[aR.mp hd'] at q;erw[ay (dT.mem e5 hb),(y _ hy)];rw[q,L] at hy;injection hy
end
section
variable{G:Hp}
structure Cm where
 k:Int
 c:Int
 n:Int
 key:List UInt8
 val:List UInt8
 ex:Option (List UInt8)
def Cm.o(c:Cm):MO:=.inst 627 [(2,.int c.k),(21,.int c.c),(22,.int c.n),(23,.bytes c.key),(24,.bytes c.val),(25,So c.ex)]
def Cm.vs(c:Cm):List V:=[.int c.k,.int c.c,.int c.n,.bytes c.key,.bytes c.val,So c.ex]
def Cm.oct(c:Cm):List UInt8:=vi c.k++vi c.c++vi c.n++tx c.key++tx c.val++JV c.ex
structure Cm.An(z:Cm):Prop where
 k:big z.k
 c:big z.c
 n:big z.n
 key:z.key.length<=200
 val:z.val.length<=200
 ex:∀d,z.ex=some d->d.length<=200
structure Cm.In(z:Cm):Prop where
 k0:0<=z.k
 k6:z.k<=6
 c:rE z.c
 n:rE z.n
theorem yl(R:Rd af w K)(h:aB 0 n=true)(q:Q .none (upd H a (.inst 627 [(2,.int k),(21,.int c),(22,.int m),(23,.bytes key),(24,.bytes val),(25,v)]))):
  aY af w K n 610 [.ref a,.int k,.int c,.int m,.bytes key,.bytes val,v] (upd H a (.inst 627 [])) Q X:=by
 erw[R.wz.to rfl h,(n h),Zu,Zc rfl,Zc rfl,bQ us rfl rfl,Zu,Zc rfl,Zc rfl,bQ us rfl rfl,Zu,Zc rfl,Zc rfl,bQ us rfl rfl,Zu,Zc rfl,Zc rfl,bQ us rfl rfl,Zu,Zc rfl,Zc rfl,bQ us rfl rfl,Zu,Zc rfl,Zc rfl,bQ us rfl rfl,Ze]
 repeat rw[bR]
 exact cR Ext.refl q
theorem zX(R:Rd af w K){c:Cm}(h:H a=some c.o)(b:aB 0 n=true)(q:Q (.tup c.vs) H):aY af w K n 617 [.ref a] H Q X:=by
 erw[R.yB.to rfl b,(n b)];unfold Cm.o at*;erw[Zt,iX rfl,Za,Zl rfl,aO h rfl rfl,Za,Zl rfl,aO h rfl rfl,Za,Zl rfl,aO h rfl rfl,Za,Zl rfl,aO h rfl rfl,Za,Zl rfl,aO h rfl rfl,Za,Zl rfl,aO h rfl rfl,Zb,<-bH Ext.refl q]
theorem Zae(h:bO af w K aG n b ρ H (h_ af w K n ms F X) λc a=>aG.sub c C=true/\X C2 a):bO af w K aG n (.iw b C C2::ms) ρ H F X:=h
theorem ZV(h:bO af w K aG n b ρ H (h_ af w K n ms F X) λc a=>aG.sub c C=true/\∀e:Loc,F (.ret v) e a):bO af w K aG n (.kA b C v::ms) ρ H F X:=h
theorem kO(R:Rd af w K){c:Cm}(h:H a=some c.o)(B:c.An)(g:aB 4 n=true)(q:c.In->Q (.bytes c.oct) H)(x:¬c.In->X 128 H):aY af w K n 624 [.ref a] H Q X:=by
 erw[R.ti.to rfl g,(n g)];have u:=B.k;unfold Cm.o at*;erw[Zh,ZT,Zn,Zy rfl,Zl rfl,aO h rfl rfl,<-fC (λh0=>?_) (λh0=>?_)]
 ·erw[Z2,Zp,ZZ,u9 rfl,Za,Zl rfl,aO h rfl rfl,Zb,tx1 ‹_›,vg,<-xe Ext.refl (x λy=>absurd y.k0 (o9.mpr h0))]
 ·erw[ZM,Zn,Zy rfl,Zl rfl,aO h rfl rfl,<-j_ (λh1=>?_) (λh1=>?_)]
  ·erw[Z2,Zp,ZZ,u9 rfl,Za,Zl rfl,aO h rfl rfl,Zb,tx1 ‹_›,vg,<-xe Ext.refl (x λy=>absurd y.k6 (o9.mpr h1))]
  ·erw[ZM,ZD,Zi,Ze,Zd,Zg,zT R (lv g rfl),(e p j i d)];have l:∀b,Ext H (upd (upd H e (qb p)) p (.cZ b)):=λb=>Ext.fresh (Ext.fresh Ext.refl j) i;have f:(upd H e (qb p)) e=some (.inst 344 [(4,.ref p)]):=us;have m:rE c.k:=⟨h0,SU h1⟩;erw[Zae,Zk,Zm,Zc rfl,bC (ae d f) rfl,Za,Zl rfl,aO (ae (ne_sn h i) (ae (ne_sn h j) h)) rfl rfl,Zb,bt (ae d f) rfl,<-sv R B.k (ae d f) (iU 0) rfl (lv g rfl) (λ_ l1=>?_) (λr=>absurd m r),Zk,Zm,Zc rfl,bC (ae d f) rfl,Za,Zl rfl,aO (ae (ne_sn h i) (ae (ne_sn h j) h)) rfl rfl,Zb,bt (ae d f) rfl,<-sv R B.c (ae d f) l1 rfl (lv g rfl) (λt l2=>?_) (λr=>⟨rfl,xe (l _) (x λy=>r y.c)⟩),Zk,Zm,Zc rfl,bC (ae d f) rfl,Za,Zl rfl,aO (ae (ne_sn h i) (ae (ne_sn h j) h)) rfl rfl,Zb,bt (ae d f) rfl,<-sv R B.n (ae d f) l2 rfl (lv g rfl) (λs l3=>?_) (λr=>⟨rfl,xe (l _) (x λy=>r y.n)⟩),Zk,Zm,Zc rfl,bC (ae d f) rfl,Za,Zl rfl,aO (ae (ne_sn h i) (ae (ne_sn h j) h)) rfl rfl,Zb,bt (ae d f) rfl,sl R (ae d f) l3 rfl B.key rfl (lv g rfl),(l4),Zk,Zm,Zc rfl,bC (ae d f) rfl,Za,Zl rfl,aO (ae (ne_sn h i) (ae (ne_sn h j) h)) rfl rfl,Zb,bt (ae d f) rfl,sl R (ae d f) l4 rfl B.val rfl (lv g rfl),(l5),Zk,Zq,Zr rfl,Za,Zl rfl,aO (ae (ne_sn h i) (ae (ne_sn h j) h)) rfl rfl,Zb,Cb R (ae d f) l5 rfl B.ex (lv g rfl),(l6),Ze,Zd,Zt,Zm,Zc rfl,bC (ae d f) rfl,Zb,bt (ae d f) rfl,sd R (ae d f) l6 rfl (lv g rfl),<-bH (l _) (q ⟨h0,h1,t,s⟩)]
noncomputable def lim(m:Int):Nat->Nat->List En->Nat
 |_,k,[]=>k
 |q9,k,x::xs=>if 0<k/\m<(q9+x.oct.length:Nat) then k else lim m (q9+x.oct.length) (k+1) xs
theorem Qz:lim m q9 k (x::xs)=if 0<k/\m<(q9+x.oct.length:Nat) then k else lim m (q9+x.oct.length) (k+1) xs:=rfl
theorem uJ(R:Rd af w K){m:Int}(G:H a=some (.list (aT es)))(F:dT H es xs)(B:∀x∈xs,x.An)(hz:xs.length<=100)(hd:(∀x∈xs,x.In)\/(300*xs.length:Nat)<=m)(u:aB 2 n=true)(q:(∀x∈xs,x.In)->∀c,H c=none->Q (.ref c) (upd H c (.list (aT (es.take (lim m 0 0 xs))))))(x:¬(∀x∈xs,x.In)->X 80 H):aY af w K n 432 [.ref a,.int m] H Q X:=by
 erw[R.AS.to rfl u,(n u),Z1 rfl,Zg,eP rfl,Zb,(c g),Z_,Zc rfl];have hl:(aT es).length<=1000:=by unfold aT;rewrite[aq];refine' aj F.length ?_;exact dK hz rfl
 refine Fs (Ext.fresh Ext.refl g _ _ G) hl (λb ρ D=>∃ZF ZE l i f,b=aT ZE/\ZF++ZE=es/\l++i=xs/\dT H ZE i/\(∀x∈l,x.In)/\ZF.length=l.length/\f<=300*l.length/\lim m 0 0 xs=lim m f ZF.length i/\ρ 0=some (.ref a)/\ρ 1=some (.int m)/\ρ 2=some (.int f)/\ρ 3=some (.ref c)/\D=upd H c (.list (aT ZF)))
  ⟨[],es,[],xs,0,rfl,rfl,rfl,F,(λ_ h=>nomatch h),rfl,qt,rfl,rfl,rfl,rfl,rfl,rfl⟩ (λρ D=>(HM · λZF ZE l i f e1 e2 e3 e4 e5 e6 e7 e8 I Jg QW O P8=>?_)) λv b ρ D J=>(HM · λZF ZE l i f e1 e2 e3 e4 e5 e6 e7 e8 I Jg QW O P8=>?_)
 ·induction ZE using lcs with
  |cons=>injection e1
  |nil=>
   induction i using lcs with
   |cons=>exact e4.elim
   |nil=>
    rw[a_] at e2 e3;replace e2:=e2.symm;subst e2;replace e3:=e3.symm;subst e3;subst P8;erw[<-ZO O ?_];have:=q e5 c g;rw[e8] at this;replace this:Q (.ref c) (upd H c (.list (aT (es.take es.length)))):=this;rw[List.take_length] at this;exact bH Ext.refl this
 ·induction ZE using lcs with
  |nil=>injection e1
  |cons e ZE=>
   induction i using lcs with
   |nil=>exact e4.elim
   |cons y i=>
    injection e1 with e1 e14
    subst e1;subst e14;subst P8;have s:y∈xs:=by refine' c_ e3 ?_;simp
    have N:=e4.1;have T:=ne_sn N g;have C:=congrArg cF e3;rw[ah,aU] at C;unfold En.o at N;erw[<-Ae ⟨_,QW,?_⟩,Zm,Zc rfl,bC (ae T N) rfl,Zb,bt (ae T N) rfl,<-kM R (ae T e4.1) (B y s) (lv u rfl) (λE=>?_) (λr=>xe (Ext.fresh Ext.refl g) (x λz=>r (z y s))),<-⟨_,_,rfl,rfl,?_⟩];have j:=En.gK (B y s).d E;erw[Zw];rw[<-bj];have A:(aT ZF).length<=100000:=by unfold aT;rw[aq];exact yj [(zp av aW,bT),(bT,zn 100),(f9,av)] (f9,zn 100000) rt (aa C) hz (aa e6)
    have k:¬(0<ZF.length/\m<(f+y.oct.length:Nat))->bO af w K aG n [.expr (.bp dP 0 [fB])] (upd (upd ρ 4 (.ref e)) 2 (.int (f+y.oct.length:Nat))) (upd H c (.list (aT ZF))) (B2 (λv ρ H Q=>bO af w K aG n [.pj 2 .Add (.bp fB 12 []),.dm (.and [dP,(.cmp .Gt dB bA)]) [.brk] [],.expr (.bp dP 0 [fB])] (upd ρ 4 v) H Q (cG X)) (λL=>L a=some (.list (aT es))) (aT ZE) (h_ af w K n [dj dP] (dE Q) (cG X))) (cG X):=λt=>by
     erw[Zk,Zm,<-Zc O ?_,wD us rfl,Zr rfl,Zb,qQ us (by assumption),Ze];rw[bR];refine⟨Ext.fresh Ext.refl g _ _ G,J _ _ ⟨ZF++[e],ZE,l++[y],i,f+y.oct.length,rfl,by erw[c_ e2];rewrite[aC];rfl,by erw[c_ e3];rewrite[aC];rfl,e4.2,λz hz=>?_,by erw[aj ah,aj ah,aj e6];rfl,by rewrite[ah,aV];exact gF [(av,zm 300 aW),(bT,zn 300)] (zp av bT,zm 300 (zs aW)) rt e7 j,?_,I,Jg,rfl,O,by unfold aT;erw[aj aX];rfl⟩⟩
     ·rcases cC.mp hz with hz|hz
      ·exact e5 z hz
      ·erw[aj (aR.mp hz),<-E]
     ·rewrite[e8,Qz,if_neg t,ah];rfl
    erw[Zh,ZR,Zn,<-Zaf O ?_,Fo us A]
    induction ZF using lcs with
    |nil=>
     erw[Z0,Zi,Ze,Zd,<-k (λh=>absurd h.1 (iD _))]
    |cons e0 ZF=>
     erw[Zan,Zn,<-Zj rfl Jg ?_,<-j_ (λp=>?_) (λp=>?_)]
     ·erw[Zp,ZD,Zp,Zay,Zat,<-Zt (ms:=[]) ?_,<-Zc O ?_];have al:∀x∈xs,x.In:=by
       rcases hd with hd|hd
       ·exact hd
       ·exact(lq5 [(zs (zm 300 av),zp aW bT),(aW,zm 300 f9),(bT,zn 300),(zm 300 (zp f9 (zs tf)),zm 300 av)] rt (bb.mp (o8 hd p)) e7 j (aP 300 (aa C))).elim
      have:=q al c g;rw[e8,Qz,if_pos ⟨ia _,p⟩,<-e2,List.take_left] at this;exact bH Ext.refl this
     ·erw[Z0,Zi,Ze,Zd,<-k (λh=>absurd h.2 (gq.mpr p))]
end
section
variable{G:Hp}
noncomputable def B4(ue:Addr)(off:Nat):MO:=.inst 732 [(17,.none),(15,.ref ue),(26,.int (off:Int))]
theorem GV(R:Rd af w K)(f:H u=none)(h:aB 0 n=true)(q:∀b,H b=none->u≠b->Q .none (upd (upd H b (.list [])) u (B4 b off))):aY af w K n 666 [.ref u,.int (off:Int)] (upd H u (.inst 732 [])) Q X:=by
 erw[R.uy.to rfl h,(n h),bQ us rfl rfl,Zu,eP rfl,(c e),aD (bo e),(h1 d),aD (bo h1),(h2 _)];have a:=aJ d;erw[Zc rfl,bQ (ae a us) rfl rfl,bQ us rfl rfl];have:=q c h2 (aJ d)
 repeat rw[bR]
 erw[aj (fw a)];rewrite[bR];exact cR Ext.refl this
theorem bG(l:List Addr):(aT l).length=l.length:=by unfold aT;rw[aq]
theorem Jt(R:Rd af w K)(a:H u=some (B4 ue off))(j:H ue=some (.list (aT es)))(g:dT H es xs)(b:xs.length<=100)(d:aB 1 n=true)(q:Q (.tup [.int (off:Int),.tup (xs.map λx=>.tup x.vs),.none]) H):aY af w K n 729 [.ref u] H Q X:=by
 erw[R.vL.to rfl d,(n d)];unfold B4 at*;erw[Zg,eP rfl,Zb,(c h),aO (ae (ne_sn a h) a) rfl rfl];have hl:(aT es).length<=1000:=by rewrite[bG];refine' aj g.length ?_;exact dK b rfl
 refine Fs (Ext.fresh Ext.refl h _ _ j) hl (λr ρ f=>∃ZE l i,r=aT ZE/\l++i=xs/\dT H ZE i/\ρ 0=some (.ref u)/\ρ 1=some (.ref c)/\f=upd H c (.list (l.map λx=>.tup x.vs)))
  ⟨es,[],xs,rfl,rfl,g,rfl,rfl,rfl⟩ (λρ f=>(sJ · λZE l i e1 e2 e3 e4 e5 e6=>?_)) λv r ρ f m=>(sJ · λZE l i e1 e2 e3 e4 e5 e6=>?_)
 ·induction ZE using lcs with
  |cons=>injection e1
  |nil=>
   induction i using lcs with
   |cons=>exact e3.elim
   |nil=>
    rw[a_] at e2;replace e2:=e2.symm;subst e2;subst e6;erw[<-Zl e4 ?_,aO (ae (ne_sn a h) a) rfl rfl,kY rfl,<-(?_:TT _ _) (Zi<|Ze<|Zd<|Zt ·) ?_,<-λ_ x=>x,iX rfl,<-Zl e4 ?_,aO (ae (ne_sn a h) a) rfl rfl,Za,ZL,<-ZF e5 ?_,gf us (by rw[aq];exact dK b rfl),<-bH (Ext.fresh Ext.refl h) q]
 ·induction ZE using lcs with
  |nil=>injection e1
  |cons e ZE=>
   induction i using lcs with
   |nil=>exact e3.elim
   |cons y i=>
    injection e1 with e1 e7
    subst e1;subst e7;subst e6;have k:=congrArg cF e2;rw[ah,aU] at k;have N:=e3.1;have T:=ne_sn N h;erw[Zk,Zm,<-Zc e5 ?_,wD us rfl,bC (ae T N) rfl,bt (ae T N) rfl,jE R (ae T e3.1) (lv d rfl),qQ us (by rw[aq];exact zwc k b rfl)];rw[bR];exact⟨Ext.fresh Ext.refl h _ _ j,m _ _ ⟨ZE,l++[y],i,rfl,by erw[c_ e2];rewrite[aC];rfl,e3.2,e4,e5,by erw[aj aX];rfl⟩⟩
theorem Kh(l:List Addr)(i j:Nat):cut (aT l) (some (i:Int)) (some (j:Int))=aT ((l.take j).drop i):=by
 unfold cut aT;dsimp only;rewrite[aL,aL];erw[c_ jy,c_ xf];rfl
theorem vh(R:Rd af w K){o lo b:Nat}(a:H u=some (B4 ue o))(f:H ue=some (.list (aT es)))(d:es.length<=100)(h0:o<=lo)(h1:lo<=b)(h2:b<=o+es.length)(e:aB 0 n=true)(q:∀c,H c=none->Q (.ref c) (upd H c (.list (aT ((es.take (b-o)).drop (lo-o)))))):aY af w K n 722 [.ref u,.int (lo:Int),.int (b:Int)] H Q X:=by
 erw[R.uR.to rfl e,(n e)];have hl:=bG es;erw[Zh,Zj rfl rfl,<-j_ (λh=>absurd h (K9 h1)) (λ_=>?_),aO a rfl rfl,<-fC (λh=>absurd h (K9 h0)) (λ_=>?_),aO a rfl rfl,aO a rfl rfl,Zb,dV f (lK hl d rfl),Zw,<-j_ (λh=>absurd h (aj hl (λz=>lq3 [(av,zp aW bT),(zs (zp aW bT),av)] rt h2 (bb.mp z)))) (λ_=>?_),aO a rfl rfl,aO a rfl rfl,hY,aO a rfl rfl,hY,aj (show lo-o=((lo-o:Nat):Int) by exact da (jU [(.sub cN dW,fU)] (.sub cN dW,fU) rt (aF (ao (cW (ax.mp (oY [(cN,dW)] (cN,dW) rt (by assumption))))))) (jU [(cN,.sub dW fU)] (cN,.sub dW fU) rt (aF (cW (ax.mp (oY [(cN,dW)] (cN,dW) rt (by assumption))))))),aj (show b-o=((b-o:Nat):Int) by exact da (jU [(.sub cN dW,fU)] (.sub cN dW,fU) rt (aF (ao (cW (ax.mp (jU [(cN,dW),(dW,fU)] (cN,fU) rt (ax.mpr h0) (ax.mpr h1))))))) (jU [(cN,.sub dW fU)] (cN,.sub dW fU) rt (aF (cW (ax.mp (jU [(cN,dW),(dW,fU)] (cN,fU) rt (ax.mpr h0) (ax.mpr h1))))))),qh f ⟨Be,Wt (aH h1 h2) d⟩ ⟨Be,Wt h2 d⟩ (lK hl d rfl),(c g)];rw[Kh];exact bH Ext.refl (q c g)
theorem fh{i:Nat}(h:l[i]?=some v):KR l (i:Int)=some v:=by
 unfold KR;erw[aj (if_pos ir)];rewrite[aL];exact h
theorem jL{i:Nat}(h:l[i]?=some a):(aT l)[i]?=some (.ref a):=by
 unfold aT;erw[aj (cP),aj h];rfl
theorem dT.get{H:Hp}:∀{es:List Addr} {xs:List En} {i:Nat} {e:Addr},dT H es xs->es[i]?=some e->∃x,xs[i]?=some x/\H e=some x.o
 |_::_,x::_,0,_,h,q=>by simp at q;subst q;exact⟨x,rfl,h.1⟩
 |_::_,_::_,i+1,_,h,q=>by
  erw[ay (dT.get h.2 (by simpa using q)),(x a b),<-⟨x,by simpa using a,b⟩]
 |[],_,_,_,_,q=>by simp at q
 |_::_,[],_,_,h,_=>h.elim
theorem Jo(R:Rd af w K){a O:Nat}{x:En}(r:H u=some (B4 ue a))(B:H ue=some (.list (aT es)))(f:H fa=some (.list (aT fs)))(s:fs=f0::fs')(P:H f0=some x.o)(S:x.i=(O:Int))(l:es.length<=100)(m:fs.length<=10)(h2:O<=a+es.length)(E:aB 1 n=true)(q:∀c C,(∀b mo,b≠u->H b=some mo->C b=some mo)->H c=none->C c=some (.list (aT (es.take (O-a)++fs)))->C u=some (B4 c (min a O))->Q .none C):aY af w K n 715 [.ref u,.ref fa] H Q X:=by
 erw[R.gX.to rfl E,(n E)];have hl:=bG es;have V:=bG fs;have F:fs.length=fs'.length+1:=by refine' aj s ?_;rfl
 have p:=r;unfold B4 En.o at*;rw[S] at P;erw[Zh,Zy rfl,ZG rfl,dV f (lK V m rfl),<-cq (λh=>absurd h (aj V (λD=>Gp [(zs av,aW),(aW,zn 0)] rt (aa (ao F)) (aa (gZ D))))) (λ_=>?_),aw f (lK V m rfl) (fh (jL (aj s rfl))),aO P rfl rfl,Zh,ZH,Zc rfl,ZC,Zl rfl,aO p rfl rfl,aO p rfl rfl,Zb,dV B (lK hl l rfl),Zw,<-cq (λh=>?_) (λh=>?_)]
 ·erw[Zp,Zu,Zv rfl,Zl rfl,aO p rfl rfl,Cw B f (aj hl (aj V (N6 l m rfl))),(c e)];have M:=ne_sn r e;erw[Zc rfl,bQ (ae M p) rfl rfl,<-cR Ext.refl (q c _ (λb mo j k=>?_) e ?_ ?_)]
  ·exact ae j (ae (ne_sn k e) k)
  ·erw[ae (aJ M)];rewrite[cY];erw[aj (show O-a=es.length by rw[hl] at h;exact aS (yj [(av,zp aW bT),(zp f9 aW,av)] (f9,bT) rt (aa (gZ h)) (aa (bM (gF [(zp av aW,bT)] (av,bT) rt (aa (ao (gZ h))))))) (yj [(zp av aW,bT),(bT,zp f9 av)] (aW,f9) rt (aa (ao (gZ h))) (aa (ao (bM (gF [(zp av aW,bT)] (av,bT) rt (aa (ao (gZ h))))))))),aj List.take_length];unfold aT;erw[aj aX];rfl
  ·rewrite[cY];erw[aj (show min a O=a from fE (ax.mp (by rw[h];exact Int.le_add_of_nonneg_right ir)))];rfl
 ·erw[Zi,Zh,ZH,Zc rfl,Zl rfl,aO p rfl rfl,<-DV (λA=>?_) (λA=>?_)]
  ·have G:=fQ f r (by intro z;injection z);erw[bQ p rfl rfl,Zu,Z8,Zc rfl,ZW,ZW,qh (ae G f) trivial trivial (aj V (dK m rfl)),(c e),aD (bo e),(v M)];have L:=aJ M;erw[Zc rfl,bQ (ae L us) rfl rfl,<-cR Ext.refl (q c _ (λb mo j k=>?_) v ?_ ?_)]
   ·exact ae j (ae (ne_sn k v) (ae j k))
   ·erw[ae M];rewrite[cY];erw[aj (show O-a=0 by exact VT A),aj kL];rewrite[jA];rfl
   ·rewrite[cY];erw[aj (show min a O=O from rC (ax.mp A))];rfl
  ·erw[Zi,Zh,ZH,Zc rfl,ZC,Zl rfl,aO p rfl rfl,aO p rfl rfl,Zb,dV B (lK hl l rfl),Zw,<-fC (λy=>?_) (λy=>absurd y (by rw[hl] at h⊢;exact λJ=>(pa h).elim (λN=>ly3 [(yp cN dW,fU),(ys fU,yp cN dW)] rt J N) (λN=>ly4 [(cN,yp dW fU),(vF,cN),(ys (yp dW fU),vF)] rt (aF (bj _ _)) (ax.mpr h2) N))),Zp,Zu,Zv rfl,Zm,Zc rfl,bC p rfl,aO p rfl rfl,ZF rfl,bt p rfl,vh R p B l qt (fe [(zs av,aW)] (av,aW) rt (bb.mp A)) h2 (lv E rfl),(c e)];have M:=ne_sn r e;have I:=ne_sn f e;erw[Cw us (ae I f) (by rewrite[bG,bG];erw[aj ey,aj dO,<-aH (Dw (aH (iW _ _) (aH (gT _ _) l)) m) (dc rfl)]),(d U),aD (bo U),(g T)];have t:=ne_sn r g;erw[Zc rfl,bQ (ae t (ae M p)) rfl rfl,<-cR Ext.refl (q d _ (λb mo j k=>?_) g ?_ ?_)]
   ·exact ae j (ae (ne_sn k g) (ae (ne_sn k e) k))
   ·erw[ae (aJ t)];rewrite[cY,ou];erw[aj fO];unfold aT;erw[aj aX];rfl
   ·rewrite[cY];erw[aj (show min a O=a from fE (gg (bb.mp A)))];rfl
theorem C9(R:Rd af w K){x:En}(l:H u=some (B4 ue off))(i:H ue=some (.list (aT es)))(m:es[k]?=some e)(s:H e=some x.o)(a:es.length<=100)(f:aB 1 n=true)(q:∀c g,(∀b mo,b≠u->H b=some mo->g b=some mo)->H c=none->g c=some (.list (aT (es.drop (k+1))))->g u=some (B4 c (off+k+1))->Q .none g):aY af w K n 694 [.ref u,.int ((off+k:Nat):Int),.int x.t] H Q X:=by
 erw[R.mM.to rfl f,(n f)];have hl:=bG es;have P:=(jg.mp m).1;have p:=l;have O:=s;unfold B4 at*;erw[aO p rfl rfl,<-fC (λh=>absurd h YW) (λ_=>?_),bC p rfl,bt p rfl,R.lX.to (d:=0) rfl (lv f rfl),(n f)];unfold En.o at*;erw[Zh,ZH,Zc rfl,Zl rfl,aO p rfl rfl,<-fC (λh=>absurd h YW) (λ_=>?_),Zi,Ze,Zd,Zh,ZH,Zc rfl,ZC,Zl rfl,aO p rfl rfl,aO p rfl rfl,Zb,dV i (lK hl a rfl),Zw,<-nQ (λh=>absurd h (aj hl (λz=>lq3 [(zs av,aW),(zp bT aW,zp bT av)] rt P (ax.mp z)))) (λ_=>?_),aO p rfl rfl,aO p rfl rfl,Z3,aj (show((off+k:Nat)-off)=(k:Int) by exact da (jU [(cN,yp dW fU)] (.sub cN dW,fU) rt (aF (bj _ _))) (jU [(yp cN dW,fU)] (dW,.sub fU cN) rt (aF (ao (bj _ _))))),aw i (lK hl a rfl) (fh (jL m)),aO O rfl rfl,<-⟨_,Ext.refl,?_⟩,kY rfl,ZM,Zn,Zj rfl rfl,<-v7 (λ_=>?_) (λh=>absurd rfl h),aO p rfl rfl,aO p rfl rfl,hY,ZW,aj (show((off+k:Nat)+1-off)=((k+1:Nat):Int) by exact WK),qh i ⟨Be,bb.mpr (fe [(zs av,aW),(aW,zn 100)] (zs (zs av),zn ((2^60))) rt P a)⟩ trivial (lK hl a rfl),(c j)];have M:=ne_sn l j;erw[bQ (ae M p) rfl rfl,bQ us rfl rfl,Ze,<-cR Ext.refl (q c _ (λb mo r k=>?_) j ?_ ?_)]
 ·exact ae r (ae r (ae (ne_sn k j) k))
 ·refine ae (aJ M) (ae (aJ M) ?_);rw[cY];unfold cut aT;dsimp only;rewrite[aL];erw[c_ xf];rfl
 ·rw[cY];rfl
end
section
variable{G:Hp}
noncomputable def nk(k:Nat):List V:=(gp k).map λi:Nat=>V.int (i:Int)
theorem vd(k:Nat):gH 0 (k:Int)=nk k:=by
 unfold gH nk;erw[aj (show((k:Int)-0).toNat=k by exact aaG)];exact dQ λi _=>by rw[Int.zero_add]
theorem oM(h:dk af w K aG n hi ρ H (λv c=>∃k,v=.int k/\(0:Int)<=0/\(0:Int)<=1000/\0<=k/\k<=1000/\forL (λv ρ H Q=>bO af w K aG n b (upd ρ x v) H Q X) (λ_=>True) (gH 0 k) ρ c (h_ af w K n ms F X)) X):
  bO af w K aG n (.forR x none hi b::ms) ρ H F X:=h
theorem uS(l:k<=1000)(I:List V->Loc->Hp->Prop)(h1:I (nk k) ρ H)(h0:∀ρ H,I [] ρ H->bO af w K aG n ms ρ H F X)(h:∀v r ρ H,(∀e a,I r e a->forL (λv ρ H Q=>bO af w K aG n b (upd ρ x v) H Q X) (λ_=>True) r e a (h_ af w K n ms F X))->I (v::r) ρ H->
   bO af w K aG n b (upd ρ x v) H (B2 (λv ρ H Q=>bO af w K aG n b (upd ρ x v) H Q X) (λ_=>True) r (h_ af w K n ms F X)) X):
  (0:Int)<=0/\(0:Int)<=1000/\0<=(k:Int)/\(k:Int)<=1000/\forL (λv ρ H Q=>bO af w K aG n b (upd ρ x v) H Q X) (λ_=>True) (gH 0 k) ρ H (h_ af w K n ms F X):=
 ⟨Int.le_refl _,by decide,ir,WI l,by rw[vd];exact wR I _ h1 h0 h⟩
theorem PA{a q s:Nat}(h:a<2^s):jf (a:Int) ((q:Int)*2^s)=((a+q*2^s:Nat):Int):=by
 have e:=Dq h q;have c:(q*2^s)=((2^s*q:Nat):Int):=by rw[tP];simp
 erw[aj c];rewrite[BS,Nat.or_comm];erw[c_ e];rw[Nat.add_comm,tP]
theorem xP(h:x<256):(cM x).toNat=x:=by
 erw[aj UInt8.toNat_ofNat',<-A6 h]
theorem OF{p l:List UInt8}(h:l[k]?=some x):(p++l)[p.length+k]?=some x:=by
 erw[aj (iS vt)];rewrite[jX];exact h
theorem AP(R:Rd af w K)(J:m<=most)(hl:(vr m).length<=oc)(i:oc<=10)(B:(pre++(vr m++rest)).length<=100000)(C:aB 0 n=true)(q:Q (.tup [.int (m:Int),.int ((pre.length+(vr m).length:Nat):Int)]) H):aY af w K n 144 [.bytes (pre++(vr m++rest)),.int (pre.length:Int),.int (oc:Int),.int (most:Int)] H Q X:=by
 erw[R.yu.to rfl C,(n C),Zh,Zj rfl rfl,<-fC (λh=>absurd h LC) (λ_=>?_),Zi,Ze,Zd,Z1 rfl,Z1 rfl,oM,Zc rfl,hY];refine uS (aH i (dc rfl)) (λr ρ g=>∃(t:Nat)(p:List UInt8)(a z:Nat),pre++(vr m++rest)=p++(vr z++rest)/\p.length=pre.length+t/\t+(vr z).length=(vr m).length/\(vr z).length<=r.length/\a<2^(7*t)/\m=a+z*2^(7*t)/\
   t<=10/\ρ 0=some (.bytes (pre++(vr m++rest)))/\ρ 1=some (.int p.length)/\ρ 3=some (.int most)/\ρ 4=some (.int a)/\ρ 5=some (.int (7*t:Nat))/\g=H)
  ?_ (λρ g=>(R0 · λt p a z e1 e2 e3 e4 _=>absurd (aH (vw z) e4) (dc rfl))) λv r ρ g E=>(Pp · λt p a z e1 e2 e3 e4 e5 e6 e7 e8 f Jg QW O P8=>?_)
 ·exact⟨0,pre,0,m,rfl,rfl,II _,by unfold nk;rewrite[aq];erw[aj d7,<-hl],by decide,by simp,by decide,rfl,rfl,rfl,rfl,rfl,rfl⟩
 subst P8;rw[e1] at e8 B;have D:∀x u,vr z=x::u->(p++(vr z++rest))[((p.length:Nat):Int).toNat]?=some x:=λx u e=>by
  rewrite[aL];erw[aj e,<-OF (k:=0) rfl]
 have d:(p++(vr z++rest)).length<=1000000:=by exact dK B rfl
 have j:p.length<(p++(vr z++rest)).length:=by
  have:=vw z;erw[aj ah,aj ah,<-gF [(zn 1,av)] (zs aW,zp aW (zp av bT)) rt this]
 erw[Zh,ZH,<-Zc f ?_,<-ZG e8 ?_,eZ (by assumption),<-nQ (λh=>absurd h (La j)) (λ_=>?_)];have l:2^((7*t:Nat):Int).toNat=2^(7*t):=by rw[aL]
 have s:∀o y:Nat,o&&& 127=y->y<128->∀F:V->Hp->Prop,F (.int (a+y*2^(7*t):Nat)) g->kv .LShift (.int (gr o 127)) (.int (7*t:Nat)) g (λv L=>∃N M,V.int a=.int N/\v=.int M/\kv .BitOr (.int a) v L F):=λo y i G F h=>by
  erw[aj (show gr o 127=y from(z0 o 127).trans (aj i rfl)),<-⟨ir,by lia,by rw[cT];exact PZ G rfl,?_⟩,aj l,<-⟨_,_,rfl,rfl,Zax ?_⟩,aj (PA e5),<-h]
 have A:∀o:Nat,o&&& 127=o%128:=λo=>by refine' aj (show 127=2^7-1 from rfl) ?_;rw[A5]
 by_cases c:z<128
 ·have b:=qP c;erw[Zi,Ze,Zd,Zg,<-Zf e8 f ?_,mj d ir (D _ [] b),aj (xP (PZ c rfl)),zu f,ZA,<-⟨_,_,rfl,rfl,?_⟩,Zw,<-Ae ⟨_,QW,?_⟩,<-Zv O ?_,Zs rfl rfl,Zam,s z z ((A z).trans (A6 c)) c _,c_ e6,Zh,Zj rfl rfl,<-fC (λ_=>?_) (λh=>absurd h (UL c)),Zp,Zh,<-Zj rfl Jg ?_,<-j_ (λh=>absurd h (K9 J)) (λ_=>?_),Zi,Ze,Zd,<-Zt ?_,iX rfl,ZE rfl rfl,Z9,aj (show p.length+1=((pre.length+(vr m).length:Nat):Int) by erw[c_ e3,aj b,aj aV,<-congrArg rB (aS (gF [(av,zp aW bT)] (zs av,zp aW (zs bT)) rt (aa e2)) (gF [(zp av aW,bT)] (zp av (zs aW),zs bT) rt (aa (ao e2))))]),<-bH Ext.refl q]
 ·have c:=bW c;have b:=AK c;erw[Zi,Ze,Zd,Zg,<-Zf e8 f ?_,mj d ir (D _ _ b),aj (xP V2),zu f,ZA,<-⟨_,_,rfl,rfl,?_⟩,Zw,<-Ae ⟨_,QW,?_⟩,<-Zv O ?_,Zs rfl rfl,Zam,s (z%128+128) (z%128) ((A _).trans ((Nat.add_mod_right _ _).trans (Nat.mod_mod _ _))) k_ _,Zh,Zj rfl rfl,<-fC (λh=>absurd h (λW=>cH [(zs (zk av 128),zn 128)] rt (bb.mp W))) (λ_=>?_),Zi,Ze,Zd,<-Ae ⟨_,O,?_⟩,ZA,<-⟨_,_,rfl,rfl,?_⟩,Zw,Ze];have pw:2^(7*(t+1))=2^(7*t)*128:=by rw[Nat.mul_add,Nat.pow_add]
  have P:z%128*2^(7*t)<=127*2^(7*t):=Nat.mul_le_mul_right _ (dJ [(zs av,zn 128)] (av,zn 127) rt k_);have I:t+1<=10:=by
   have:=vw (z / 128);rw[b,aU] at e3;exact yj [(zp av (zs aW),bT),(bT,f9),(f9,zn 10)] (zs av,zn 10) rt (aa e3) hl i
  refine⟨trivial,E _ _ ⟨t+1,p++[cM (z%128+128)],a+z%128*2^(7*t),z / 128,?_,?_,?_,?_,?_,?_,I,e8.trans (aj e1 rfl),?_,Jg,rfl,?_,rfl⟩⟩
  ·erw[aj e1,aj b];rewrite[aC];rfl
  ·erw[aj ah,aj aV,<-aS (gF [(av,zp aW bT)] (zs av,zp aW (zs bT)) rt (aa e2)) (gF [(zp av aW,bT)] (zp av (zs aW),zs bT) rt (aa (ao e2)))]
  ·erw[c_ e3,aj b,aj aU,<-aS (fe [] (zp (zs av) aW,zp av (zs aW)) rt) (fe [] (zp av (zs aW),zp (zs av) aW) rt)]
  ·rw[b,aU,aU] at e4;exact fe [(zs av,zs aW)] (av,aW) rt e4
  ·erw[aj pw,<-A7 (lq (Xi _ _ _) [((zp av (zn 1)),aW),(bT,(.mulL 127 aW)),((.mulR aW 128),(zp av bT))] rt e5 P)]
  ·erw[aj pw,aj e6];rewrite[q5];erw[aj (tP (2^(7*t)) 128)];rewrite[<-Nat.mul_assoc,<-Nat.add_mul];erw[aj (tP (z / 128) 128)];rw[Nat.mod_add_div]
  ·erw[aj ah,aj aV];rfl
  ·erw[aj (show((7*t:Nat)+7)=(7*(t+1):Nat) by exact rfl)];rfl
end
section
variable{G:Hp}
theorem mA{d x y:List UInt8}(h:d.drop a=x++y):d.drop (a+x.length)=y:=by
 erw[c_ List.drop_drop,aj h,aj List.drop_left];rfl
theorem wj{d y:List UInt8}(h:d.drop a=x::y):d[a]?=some x:=by
 have:=congrArg (·[0]?) h
 simpa[List.getElem?_drop] using this
theorem vN{d y:List UInt8}(h:d.drop a=x::y):a<d.length:=(jg.mp (wj h)).1
theorem zi(m:Nat):∃x l,vr m=x::l/\(m<128->x=cM m/\l=[])/\(128<=m->128<=x.toNat):=by
 by_cases h:m<128
 ·exact⟨_,_,qP h,λ_=>⟨rfl,rfl⟩,λq=>absurd h (tN.mpr q)⟩
 ·exact⟨_,_,AK (bW h),λq=>absurd q h,λ_=>by erw[aj (xP V2),<-dJ [] (zn 128,zk av 128) rt]⟩
theorem To(h:dk af w K aG n o ρ H (λx c=>yv x k c λu=>dk af w K aG n e ρ c (λv d=>∃a b,u=.int a/\v=.int b/\kv op u v d λr g=>kX x k r g λf=>bO af w K aG n ms ρ f F X) X) X):bO af w K aG n (.Dk o k op e::ms) ρ H F X:=h
theorem RB{is:List Nat}{P:List V->Prop}(l:vs.length=is.length)(l8:dN is.length 8=true)(q:P vs):∃E,V.tup vs=.tup E/\E.length=is.length/\is.length<=8/\P E:=⟨vs,rfl,l,aE l8,q⟩
theorem BW(R:Rd af w K)(h:d.drop a=vr m++rest)(k:m<=most)(hl:(vr m).length<=oc)(i:oc<=10)(g:d.length<=100000)(j:aB 0 n=true)(q:Q (.tup [.int (m:Int),.int ((a+(vr m).length:Nat):Int)]) H):aY af w K n 144 [.bytes d,.int (a:Int),.int (oc:Int),.int (most:Int)] H Q X:=by
 erw[dg (zi m),(x l e _)];have b:=vN (aj h (aj e rfl));have f:d=d.take a++(vr m++rest):=by refine' c_ h ?_;rw[ug]
 have c:(d.take a).length=a:=by refine' aj dO ?_;exact fE (gg b)
 have:=AP (Q:=Q) (X:=X) R k hl i (c_ f g) j (aj c q);rw[<-f,c] at this;exact this
theorem zL(R:Rd af w K)(h:d.drop a=vr m++rest)(j:m<2^64)(g:d.length<=100000)(c:aB 1 n=true)(q:Q (.tup [.int (m:Int),.int ((a+(vr m).length:Nat):Int)]) H):aY af w K n 158 [.bytes d,.int (a:Int)] H Q X:=by
 erw[R.yd.to rfl c,(n c),df (zi m),(x l e h1 h2)];have O:d.drop a=x::(l++rest):=by refine' aj h ?_;refine' aj e ?_;rfl
 have f:=vN O;have b:d.length<=1000000:=by exact dK g rfl
 have k:d[((a:Nat):Int).toNat]?=some x:=by rw[aL];exact wj O
 erw[Zh,ZR,Zn,Zj rfl rfl,<-nQ (λ_=>?_) (λh=>absurd h LC),Zp,Zn,ZH,Zc rfl,ZG rfl,eZ (by assumption),<-fC (λ_=>?_) (λh=>absurd h (La f)),Zp,Zn,Zy rfl,Zf rfl rfl,mj b ir k,<-fC (λi=>?_) (λi=>?_)]
 ·have z:=A8 λq=>absurd (h2 q) (Sh i);erw[aD (h1 z),(p o)];subst p;subst o;erw[Zp,ZD,Zp,Zt,iX rfl,Za,Zf rfl rfl,mj b ir k,aj (xP (PZ z rfl))];rw[e] at q;exact bH Ext.refl q
 ·erw[Zi,Zi,Ze,Zd,Zt,Zq,Zah rfl rfl rfl rfl,BW R h (zw5 j rfl) (fN 9 _ (by exact PZ j rfl)) qt g (lv c rfl),<-bH Ext.refl q]
theorem xw(R:Rd af w K)(h:d.drop a=vr m++rest)(j:m<2^20)(g:d.length<=100000)(c:aB 1 n=true)(q:Q (.tup [.int (m:Int),.int ((a+(vr m).length:Nat):Int)]) H):aY af w K n 172 [.bytes d,.int (a:Int)] H Q X:=by
 erw[R.uK.to rfl c,(n c),df (zi m),(x l e h1 h2)];have O:d.drop a=x::(l++rest):=by refine' aj h ?_;refine' aj e ?_;rfl
 have f:=vN O;have b:d.length<=1000000:=by exact dK g rfl
 have k:d[((a:Nat):Int).toNat]?=some x:=by rw[aL];exact wj O
 erw[Zh,ZR,Zn,Zj rfl rfl,<-nQ (λ_=>?_) (λh=>absurd h LC),Zp,Zn,ZH,Zc rfl,ZG rfl,eZ (by assumption),<-fC (λ_=>?_) (λh=>absurd h (La f)),Zp,Zn,Zy rfl,Zf rfl rfl,mj b ir k,<-fC (λi=>?_) (λi=>?_)]
 ·have z:=A8 λq=>absurd (h2 q) (Sh i);erw[aD (h1 z),(o p)];subst o;subst p;erw[Zp,ZD,Zp,Zt,iX rfl,Za,Zf rfl rfl,mj b ir k,aj (xP (PZ z rfl))];rw[e] at q;exact bH Ext.refl q
 ·erw[Zi,Zi,Ze,Zd,Zt,Zq,Zah rfl rfl rfl rfl,BW R h (zw5 j rfl) (fN 4 _ (by exact PZ j rfl)) (dc rfl) g (lv c rfl),<-bH Ext.refl q]
theorem xp(R:Rd af w K)(h:d.drop a=tx b++rest)(j:b.length<=10000)(c:d.length<=100000)(g:aB 2 n=true)(q:Q (.tup [.bytes b,.int ((a+(tx b).length:Nat):Int)]) H):aY af w K n 186 [.bytes d,.int (a:Int)] H Q X:=by
 erw[R.uA.to rfl g,(n g)];have f:d.length<=1000000:=by exact dK c rfl
 have i:d.drop a=vr b.length++(b++rest):=by refine' aj h ?_;unfold tx;rw[aC]
 have h2:=mA i;have hl:a+(vr b.length).length+b.length<=d.length:=by
  have e:=congrArg cF i;rw[ey,ah,ah] at e;have:=vw b.length;exact QK [(zp av (zp aW (zp bT f9)),tf)] (zp (zp av aW) bT,tf) rt (aa (Vr e (aZ this vt)))
 erw[xw R i (aM j (aE rfl)) c (lv g rfl),RB rfl rfl,Zh,ZH,Zs rfl rfl,Zw,ZG rfl,eZ (by assumption),<-j_ (λh=>absurd h (λV=>lq3 [(zp av aW,bT),(zs bT,zp av aW)] rt hl (bb.mp V))) (λ_=>?_),Zi,Ze,Zd,Zt,iX rfl,hY,hY,LF ⟨Be,bb.mpr (gF [(zp av aW,bT),(bT,zn 100000)] (zs av,zn ((2^60))) rt hl c)⟩ ⟨Xq,bb.mpr (gF [(zp av aW,bT),(bT,zn 100000)] (zs (zp av aW),zn ((2^60))) rt hl c)⟩ f,<-⟨_,Ext.refl,?_⟩];have e1:cut d (some (a+(vr b.length).length:Nat)) (some ((a+(vr b.length).length:Nat)+b.length))=b:=by
  unfold cut;dsimp only;rewrite[aL,<-bj,aL];erw[aj List.drop_take,aj h2];rewrite[jX];erw[aj List.take_left];rfl
 have e2:(a+(vr b.length).length:Nat)+b.length=((a+(tx b).length:Nat):Int):=by
  unfold tx;erw[aj ah,<-da (Yw [(yp cN dW,fU),(yp vF fU,U4),(yx5,yp vF cN)] (yp yx5 dW,U4) rt (aF (ao (bj _ _))) (aF (ao (bj _ _))) (aF (bj _ _))) (Yw [(yp cN dW,fU),(vF,yp dW U4),(yx5,yp cN vF)] (yx5,yp fU U4) rt (aF (ao (bj _ _))) (aF (bj _ _)) (aF (bj _ _)))]
 erw[aj e1,aj e2,<-q]
noncomputable def cO(d:List UInt8)(a:Nat):MO:=.inst 267 [(3,.bytes d),(5,.int (a:Int))]
theorem QL(R:Rd af w K)(e:d.length<=100000)(a:aB 0 n=true)(q:Q .none (upd H c (cO d 0))):aY af w K n 201 [.ref c,.bytes d] (upd H c (.inst 267 [])) Q X:=by
 erw[R.yt.to rfl a,(n a)];have b:d.length<=1000000:=by exact dK e rfl
 erw[Zh,ZT,Zn,Zj rfl rfl,<-fC (λh=>absurd h (dc rfl)) (λ_=>?_),ZM,Zn,ZH,Zc rfl,ZG rfl,eZ (by assumption),<-j_ (λh=>absurd h LC) (λ_=>?_),bQ us rfl rfl,bQ us rfl rfl]
 repeat rw[bR]
 exact cR Ext.refl q
theorem cv(R:Rd af w K)(h:d.drop a=vr m++rest)(p:m<2^64)(i:d.length<=100000)(f:aB 2 n=true)(q:d.drop (a+(vr m).length)=rest->Q (.int (m:Int)) (upd G c (cO d (a+(vr m).length)))):aY af w K n 215 [.ref c] (upd G c (cO d a)) Q X:=by
 erw[R.uu.to rfl f,(n f)];have q:=q (mA h);erw[df (zi m),(x l e h1 h2)];have O:d.drop a=x::(l++rest):=by refine' aj h ?_;refine' aj e ?_;rfl
 have g:=vN O;have b:d.length<=1000000:=by exact dK i rfl
 have k:d[((a:Nat):Int).toNat]?=some x:=by rw[aL];exact wj O
 erw[aO us rfl rfl,Zh,ZR,Zn,ZH,Zc rfl,ZN,Za,Zl rfl,aO us rfl rfl,Zb,eZ (by assumption),<-fC (λ_=>?_) (λh=>absurd h (La g)),Zp,Zn,Zy rfl,Zo rfl,Zl rfl,aO us rfl rfl,mj b ir k,<-fC (λj=>?_) (λj=>?_)]
 ·have z:=A8 λq=>absurd (h2 q) (Sh j);erw[aD (h1 z),(t o)];subst t;subst o;erw[bQ us rfl rfl,Zt,Zo rfl,Zl rfl,aO us rfl rfl,mj b ir k,aj (xP (PZ z rfl))];rewrite[bR];rw[e] at q;exact bH Ext.refl q
 ·erw[Zi,Zi,Ze,Zd,Zaw,Zq,Za,Zl rfl,aO us rfl rfl,zL R h p i (lv f rfl),RB rfl rfl,bQ us rfl rfl];rw[bR];exact bH Ext.refl q
theorem cl(R:Rd af w K)(h:d.drop a=tx b++rest)(g:b.length<=10000)(f:d.length<=100000)(e:aB 3 n=true)(q:d.drop (a+(tx b).length)=rest->Q (.bytes b) (upd G c (cO d (a+(tx b).length)))):aY af w K n 236 [.ref c] (upd G c (cO d a)) Q X:=by
 erw[R.qu.to rfl e,(n e)];have q:=q (mA h);erw[aO us rfl rfl,aO us rfl rfl,xp R h g f (lv e rfl),RB rfl rfl,bQ us rfl rfl];rw[bR];exact bH Ext.refl q
theorem cf(R:Rd af w K)(h:d.drop a=[fb t]++rest)(g:d.length<=100000)(f:aB 0 n=true)(q:d.drop (a+1)=rest->Q (.bool t) (upd G c (cO d (a+1)))):aY af w K n 250 [.ref c] (upd G c (cO d a)) Q X:=by
 erw[R.yw.to rfl f,(n f)];have q:=q (mA h);have e:=vN h;have b:d.length<=1000000:=by exact dK g rfl
 have i:d[((a:Nat):Int).toNat]?=some (fb t):=by rw[aL];exact wj h
 erw[aO us rfl rfl,aO us rfl rfl,Zb,eZ (by assumption),<-nQ (λh=>absurd h (La e)) (λ_=>?_),aO us rfl rfl,aO us rfl rfl,mj b ir i,Zh,Zj rfl rfl,<-j_ (λh=>absurd h (by induction t using tQ<;>decide)) (λ_=>?_),To,aO us rfl rfl,<-⟨_,_,rfl,rfl,?_⟩,Zw,bQ us rfl rfl,Zt,Zaz rfl rfl];rw[bR]
 induction t using tQ with
 |true=>exact cq (λ_=>bH Ext.refl q) (λh=>absurd rfl h)
 |false=>exact cq (λh=>absurd h (dc rfl)) (λ_=>bH Ext.refl q)
theorem cd(R:Rd af w K)(h:d.drop a=[])(f:d.length<=100000)(b:aB 0 n=true)(q:Q .none (upd G c (cO d a))):aY af w K n 264 [.ref c] (upd G c (cO d a)) Q X:=by
 erw[R.yP.to rfl b,(n b)];have hl:d.length<=a:=by
  have:=congrArg cF h;rw[ey,Bw] at this;exact ax.mp (zC [(cN,yp dW fU),(vF,cN),(dW,yn 0)] (vF,fU) rt (aF (bj _ _)) (ax.mpr (iV qt)) (aF (congrArg rB this)))
 have e:d.length<=1000000:=by exact dK f rfl
 erw[aO us rfl rfl,aO us rfl rfl,Zb,eZ (by assumption),<-fC (λh=>absurd h (K9 hl)) (λ_=>?_),<-cR Ext.refl q]
theorem XM(R:Rd af w K)(h:d.drop a=rest)(e:a<=d.length)(g:d.length<=100000)(b:aB 0 n=true)(q:Q (.int (rest.length:Int)) (upd G c (cO d a))):aY af w K n 208 [.ref c] (upd G c (cO d a)) Q X:=by
 erw[R.yD.to rfl b,(n b)];have hl:rest.length=d.length-(a:Int):=by refine' c_ h ?_;refine' aj ey ?_;exact da (jU [(cN,.sub dW fU)] (cN,.sub dW fU) rt (aF (cW (e)))) (jU [(.sub cN dW,fU)] (.sub cN dW,fU) rt (aF (ao (cW (e)))))
 have f:d.length<=1000000:=by exact dK g rfl
 rw[hl] at q;erw[aO us rfl rfl,Zb,eZ (by assumption),aO us rfl rfl,<-bH Ext.refl q]
theorem O_{d x y:List UInt8}(h:d.drop a=x++y)(n:1<=x.length):a+x.length<=d.length:=by
 have:=congrArg cF h;rw[ey,ah] at this;exact yj [(zp av (zp aW bT),f9)] (zp av aW,f9) rt (aa (Vr this (aZ n vt)))
theorem uI(R:Rd af w K)(h:d.drop a=vr m++rest)(g:m<=rest.length)(e:d.length<=100000)(b:aB 3 n=true)(q:d.drop (a+(vr m).length)=rest->Q (.int (m:Int)) (upd G c (cO d (a+(vr m).length)))):aY af w K n 362 [.ref c] (upd G c (cO d a)) Q X:=by
 erw[R.zN.to rfl b,(n b)];have f:=O_ h (vw m);have hr:rest.length<=d.length:=by
  have:=congrArg cF h;rw[ey,ah] at this;exact yj [(zp av aW,bT),(bT,f9)] (aW,f9) rt (aa (ao this)) (iW _ _)
 erw[bC us rfl,bt us rfl,cv R h (gF [(av,zn 100000),(aW,av),(bT,aW)] (zs bT,zn ((2^64))) rt e hr g) e (lv b rfl),(i),Zh,ZH,Zc rfl,Zm,Zc rfl,bC us rfl,bt us rfl,XM R i f e (lv b rfl),<-j_ (λh=>absurd h (K9 g)) (λ_=>?_),<-bH Ext.refl (q i)]
theorem Bb(R:Rd af w K)(h:d.drop a=JV o++rest)(j:∀b,o=some b->b.length<=10000)(g:d.length<=100000)(f:aB 4 n=true)(q:d.drop (a+(JV o).length)=rest->Q (So o) (upd G c (cO d (a+(JV o).length)))):aY af w K n 645 [.ref c] (upd G c (cO d a)) Q X:=by
 erw[R.AA.to rfl f,(n f)];have q:=q (mA h)
 induction o using tT with
 |none=>
  erw[bC us rfl,bt us rfl,cf R h g (lv f rfl),(i),<-bH Ext.refl q]
 |some b=>
  have h1:d.drop a=[fb true]++(tx b++rest):=by refine' aj h ?_;unfold JV;rw[aC]
  erw[bC us rfl,bt us rfl,cf R h1 g (lv f rfl),(i)];unfold cO;erw[bC us rfl,bt us rfl,cl R i (j b rfl) g (lv f rfl),(h2)];have e:a+(JV (some b)).length=a+1+(tx b).length:=by unfold JV;refine' aj ah ?_;refine' aj aV ?_;rw[q5]
  rw[e] at q;exact bH Ext.refl q
theorem lE(R:Rd af w K){e:En}(I:e.In)(p:e.d.length<=200)(f:aB 4 n=true)(q:(e.k=0\/e.k=2)->∀c,H c=none->Q (.ref c) (upd H c e.o))(x:¬(e.k=0\/e.k=2)->X 56 H):aY af w K n 425 [.bytes e.oct] H Q X:=by
 erw[R.wW.to rfl f,(n f)];have g:e.oct.length<=100000:=aH (En.gK p I) (dc rfl);have N:=lh I.k;erw[cA ⟨eJ I.t,eJ I.i,eJ I.k⟩,(M J L),ay M,(t v D),ay J,(i y F),ay L,(k ek E)];have h0:e.oct.drop 0=vr t++(vr i++(vr k++(tx e.d++[]))):=by
  unfold En.oct;erw[aj v,aj y,aj ek];rewrite[gN,gN,gN];erw[aj fO];rewrite[a_];simp only[aC]
 generalize e.oct=d at h0 g;erw[Zg,ZQ,ZF rfl,(c s)];have G:∀a,Ext H (upd H c (cO d a)):=λa=>Ext.fresh Ext.refl s;refine QL R g (lv f rfl) ⟨rfl,?_⟩;have C:∀a,(upd H c (cO d a)) c=some (.inst 267 [(3,.bytes d),(5,.int a)]):=λa=>us;erw[<-fj (C _) ⟨rfl,?_⟩,bt (C _) rfl,cv R h0 D g (lv f rfl),(h1),<-fj (C _) ⟨rfl,?_⟩,bt (C _) rfl,cv R h1 F g (lv f rfl),(h2),<-fj (C _) ⟨rfl,?_⟩,bt (C _) rfl,cv R h2 E g (lv f rfl),(h3),c_ ek];have r:(e.k=0\/e.k=2)->∀ρ:Loc,ρ 1=some (.ref c)->ρ 2=some (.int t)->ρ 3=some (.int i)->ρ 4=some (.int e.k)->
   bO af w K aG n [.bq 5 (.bp bA 5 []),.expr (.bp bA 7 []),dj (.call (.cls 407 376) [dB,dP,fB,fG])] ρ (upd H c (cO d (0+(vr t).length+(vr i).length+(vr k).length))) (dE Q) (cG X):=λj ρ m B A z=>by
  erw[Zg,Zm,<-Zc m ?_,<-fj (C _) ⟨rfl,?_⟩,bt (C _) rfl,cl R h3 (dK p rfl) g (lv f rfl),(h4),Zk,Zm,<-Zc m ?_,<-fj (C _) ⟨rfl,?_⟩,bt (C _) rfl,cd R h4 g (lv f rfl),Zt,ZQ,<-Zah B A z rfl ?_,(b u),aD (bo u),(l U),<-C_ R u (lv f rfl) ⟨rfl,?_⟩,aj (fw (aJ U)),c_ v,c_ y,<-bH (Ext.fresh Ext.refl ?_) (q j b l),<-(dp _ _ (aJ U)).trans s]
 erw[Zh,ZR,Zn,Zj rfl rfl,<-v7 (λj=>?_) (λj=>?_)]
 ·erw[Z0,Zi,Ze,Zd];refine r (.inl j) _ ?_ ?_ ?_ ?_<;>rfl
 ·erw[Zp,Zn,Zj rfl rfl,<-v7 (λT=>?_) (λT=>?_)]
  ·erw[Z0,Zi,Ze,Zd];refine r (.inr T) _ ?_ ?_ ?_ ?_<;>rfl
  ·erw[Zp,ZD,Zp,ZZ,u9 rfl,tx1 ‹_›,vg,<-xe (G _) (x λh=>h.elim j T)]
end
section
variable{G:Hp}
section
variable{d rest:List UInt8}{a i:Nat}{c:Addr}
theorem uV:(upd G c (cO d a)) c=some (.inst 267 [(3,.bytes d),(5,.int (a:Int))]):=us
theorem Al(R:Rd af w K)(hr:ρ i=some (.ref c))(h:d.drop a=vr m++rest)(f:m<2^64)(b:d.length<=100000)(e:aB 2 n=true)(q:d.drop (a+(vr m).length)=rest->Q (.int (m:Int)) (upd G c (cO d (a+(vr m).length)))):dk af w K aG n (.bp (.loc i) 4 []) ρ (upd G c (cO d a)) Q X:=
 Zm (Zc hr (fj uV ⟨rfl,Zb (bt uV rfl (cv R h f b e q))⟩))
theorem Gf(R:Rd af w K)(hr:ρ i=some (.ref c))(h:d.drop a=tx b++rest)(g:b.length<=10000)(e:d.length<=100000)(f:aB 3 n=true)(q:d.drop (a+(tx b).length)=rest->Q (.bytes b) (upd G c (cO d (a+(tx b).length)))):dk af w K aG n (.bp (.loc i) 5 []) ρ (upd G c (cO d a)) Q X:=
 Zm (Zc hr (fj uV ⟨rfl,Zb (bt uV rfl (cl R h g e f q))⟩))
theorem X4(R:Rd af w K)(hr:ρ i=some (.ref c))(h:d.drop a=[fb t]++rest)(b:d.length<=100000)(e:aB 0 n=true)(q:d.drop (a+1)=rest->Q (.bool t) (upd G c (cO d (a+1)))):dk af w K aG n (.bp (.loc i) 6 []) ρ (upd G c (cO d a)) Q X:=
 Zm (Zc hr (fj uV ⟨rfl,Zb (bt uV rfl (cf R h b e q))⟩))
theorem Pu(R:Rd af w K)(hr:ρ i=some (.ref c))(h:d.drop a=[])(b:d.length<=100000)(e:aB 0 n=true)(q:Q .none (upd G c (cO d a))):dk af w K aG n (.bp (.loc i) 7 []) ρ (upd G c (cO d a)) Q X:=
 Zm (Zc hr (fj uV ⟨rfl,Zb (bt uV rfl (cd R h b e q))⟩))
theorem Ir(R:Rd af w K)(hr:ρ i=some (.bytes d))(h:d.length<=100000)(a:aB 0 n=true)(q:∀c,H c=none->Q (.ref c) (upd H c (cO d 0))):dk af w K aG n (.call (.cls 267 201) [.loc i]) ρ H Q X:=
 ZQ (Za (Zc hr (Zb λc b=>QL R h a ⟨rfl,q c b⟩)))
end
theorem DX:∀l:List Int,l.length<=((l.map vi).flatten).length
 |[]=>qt
 |i::l=>by
  erw[aj dr,aj fy,aj ah,aj aU];have a:=DX l;have w:=vw i.toNat;unfold vi at*;exact gF [(zn 1,av),(aW,bT)] (zs aW,zp av bT) rt w a
theorem EI(R:Rd af w K)(I:w9 ids)(h:d.drop a=mf ids++rest)(A:d.length<=100000)(i:aB 4 n=true)(q:d.drop (a+(mf ids).length)=rest->∀o,G o=none->o≠c->Q (.ref o) (upd (upd G o (.list (iv ids))) c (cO d (a+(mf ids).length)))):aY af w K n 481 [.ref c] (upd G c (cO d a)) Q X:=by
 erw[R.Ew.to rfl i,(n i)];have q:=q (mA h);have h0:d.drop a=vr ids.length++((ids.map vi).flatten++rest):=by refine' aj h ?_;unfold mf;rw[aC]
 have x:=I.len;erw[Zg,eP rfl,Zb,(o N),aD (bo N),(E k),oM,Zz rfl,aj (fw (aJ k)),uI R h0 (by erw[aj ah];have:=DX ids;exact Vt this) A (lv i rfl),(h1),hY];refine uS (dK x rfl) (λr ρ u=>∃done t p,done++t=ids/\r.length=t.length/\d.drop p=(t.map vi).flatten++rest/\p=a+(vr ids.length).length+((done.map vi).flatten).length/\ρ 0=some (.ref c)/\ρ 1=some (.ref o)/\u=upd (upd G o (.list (iv done))) c (cO d p))
  ?_ (λρ u=>(u0 · λdone t p e1 e2 e3 e4 e5 e6 e7=>?_)) λv r ρ u L=>(u0 · λdone t p e1 e2 e3 e4 e5 e6 e7=>?_)
 ·exact⟨[],ids,_,rfl,by unfold nk;rewrite[aq];erw[aj d7];rfl,h1,rfl,rfl,rfl,rfl⟩
 ·have:t=[]:=by
   induction t using lcs with
   |nil=>rfl
   |cons=>injection e2
  subst this;rw[a_] at e1;subst e1;subst e7;erw[<-ZO e6 ?_];have e:a+(mf done).length=p:=by refine' aj e4 ?_;unfold mf;refine' aj ah ?_;rw[q5]
  rw[e] at q;exact bH Ext.refl (q o E k)
 ·induction t using lcs with
  |nil=>injection e2
  |cons j t=>
   subst e7;have F:=I.Iq j (by erw[c_ e1];simp);erw[ay (eJ F),(m S J)];subst S;have l:d.drop p=vr m++((t.map vi).flatten++rest):=by refine' aj e3 ?_;refine' aj dr ?_;refine' aj fy ?_;rw[gN,aC]
   have B:=congrArg cF e1;rw[ah,aU] at B;have V:(iv done).length<=100000:=by unfold iv;rw[aq];exact zwc B x rfl
   erw[Zg,Al R e5 l J A (lv i rfl),(h2)];have D:∀y,(upd (upd G o (.list (iv done))) c y) o=some (.list (iv done)):=λy=>ae k us;have g:∀f:Loc,f 0=some (.ref c)->f 1=some (.ref o)->f 3=some (.int m)->bO af w K aG n [.expr (.bp bA 0 [dP])] f (upd (upd G o (.list (iv done))) c (cO d (p+(vr m).length))) (B2 (λv ρ H Q=>bO af w K aG n [.bq 3 (.bp aN 4 []),.dm (.and [bA,(.cmp .LtE dP (.sub bA (ek (-1))))]) [.bad] [],.expr (.bp bA 0 [dP])] (upd ρ 2 v) H Q (cG X)) (λ_=>True) r (h_ af w K n [dj bA] (dE Q) (cG X))) (cG X):=λf P C O=>by
    erw[Zk,Zm,<-Zc C ?_,<-oW (D _) ⟨rfl,?_⟩,<-ZF O ?_,qQ (D _) V,aj (fw (aJ k))];rewrite[bR];erw[<-⟨trivial,L _ _ ⟨done++[(m:Int)],t,p+(vr m).length,by erw[c_ e1];rewrite[aC];rfl,by simpa using e2,h2,?_,P,C,by unfold iv;erw[aj aX];rfl⟩⟩,aj e4,aj aX,aj jo,aj ah];simp only[dr,tp,fy,rn,a_,gN];exact Xb
   erw[Zh,ZR,Zn,<-Zaf e6 ?_,Fo (D _) V];cases b:done.reverse with
   |nil=>
    obtain rfl:done=[]:=by simpa using b
    erw[Z0,Zi,Ze,Zd,<-g _ e5 e6 rfl]
   |cons y z=>
    have e:done=z.reverse++[y]:=by
     have:=congrArg List.reverse b
     simpa using this
    subst e;have M:(!(iv (z.reverse++[y])).isEmpty)=true:=by unfold iv;simp
    erw[aj M,Zan,Zn,ZH,<-Zc rfl ?_,Zo rfl,<-Zc e6 ?_,<-aw (v:=.int y) (D _) V ?_ ?_]
    ·unfold iv;erw[aj aX,<-Ig]
    refine DV (λq=>?_) (λ_=>?_)
    ·exfalso;have s:=I.up;rw[<-e1] at s;have:=(mu.mp s).2.2 y (by simp) m (by simp);exact U1 [(ys cN,dW),(dW,cN)] rt this q
    ·erw[Z0,Zi,Ze,Zd,<-g _ e5 e6 rfl]
end
section
variable{G:Hp}
theorem HP(R:Rd af w K)(hr:ρ i=some (.ref c))(I:w9 ids)(h:d.drop a=mf ids++rest)(b:d.length<=100000)(e:aB 4 n=true)(q:d.drop (a+(mf ids).length)=rest->∀o,G o=none->o≠c->Q (.ref o) (upd (upd G o (.list (iv ids))) c (cO d (a+(mf ids).length)))):dk af w K aG n (bD 481 [.loc i]) ρ (upd G c (cO d a)) Q X:=
 Zq (Za (Zc hr (Zb (EI R I h b e q))))
theorem zE(R:Rd af w K)(I:w9 ids)(e:(ju ids u).length<=100000)(a:aB 5 n=true)(q:∀g A,Ext H g->Va H A->Oa g A ids u->Q (.ref A.c) g):aY af w K n 495 [.bytes (ju ids u)] H Q X:=by
 erw[R.yq.to rfl a,(n a)];have h0:(ju ids u).drop 0=mf ids++(mf []++(mf []++(mf []++([fb u]++[])))):=by
  unfold ju;erw[aj fO];rewrite[a_];simp only[aC]
 generalize ju ids u=d at h0 e;erw[Zg,Ir R rfl e (lv a rfl),(c M),Zg,HP R rfl I h0 e (lv a rfl),(h1 o1 W L),Zg,HP R rfl w9.nil h1 e (lv a rfl),(h2 D V J),aD (bo V),(S r),Zg,HP R rfl w9.nil h2 e (lv a rfl),(h3 C U G),aD (bo U),(t k),aD (bo t),(P p),Zg,HP R rfl w9.nil h3 e (lv a rfl),(h4 B T F),aD (bo T),(s i),aD (bo s),(z j),aD (bo z),(O m),Zg,X4 R rfl h4 e (lv a rfl),(h5),Zk,Pu R rfl h5 e (lv a rfl)];generalize f:upd (upd (upd (upd H o1 (.list (iv ids))) D (.list (iv []))) C (.list (iv []))) B (.list (iv []))=G';have E:∀y,Ext H (upd G' c y):=λy=>by
  erw[c_ f,<-Ext.fresh (Ext.fresh (Ext.fresh (Ext.fresh (Ext.fresh Ext.refl W) S) P) O) M]
 have l4:∀y,(upd G' c y) B=some (.list (iv [])):=λy=>by refine' c_ f ?_;exact ae F us
 have l3:∀y,(upd G' c y) C=some (.list (iv [])):=λy=>by refine' c_ f ?_;exact ae G (ae (aJ i) us)
 have l2:∀y,(upd G' c y) D=some (.list (iv [])):=λy=>by refine' c_ f ?_;exact ae J (ae (aJ j) (ae (aJ k) us))
 have l1:∀y,(upd G' c y) o1=some (.list (iv ids)):=λy=>by refine' c_ f ?_;exact ae L (ae (aJ m) (ae (aJ p) (ae (aJ r) us)))
 erw[Zt,ZQ,Zr rfl,Zah rfl rfl rfl rfl,(b N),pS R I N (l1 _) (l2 _) (l3 _) (l4 _) (lv a rfl),(g A e1 e2 e3 e4)];subst e1;have up:∀{x y},(upd G' c y) x=none->H x=none:=λ{x y} h=>aI (E y) h;exact⟨rfl,bH Ext.refl (q g A ((E _).trans e2) ⟨up e3.c,up e3.v,up e3.l,up e3.o,up e3.n⟩ e4)⟩
theorem AE(R:Rd af w K)(I:s.Ok)(g:s.oct.length<=2000)(j:aB 6 n=true)(q:∀E a A,Ext H E->YV H a A->Bf E a A s->Q (.ref a) E):aY af w K n 551 [.bytes s.oct] H Q X:=by
 erw[R.qB.to rfl j,(n j),aD ⟨eJ I.i,eJ I.t⟩,(U P),ay U,(i L N),ay P,(t J M)];have r:(ju s.ids s.u).length<=10000:=by
  have:(ju s.ids s.u).length<=s.oct.length:=by unfold Sn.oct tx;simp only[ah];exact yj [] (bT,zp (zp av (zp aW bT)) f9) rt
  exact dK (aH this g) rfl
 have h0:s.oct.drop 0=vr i++(vr t++(tx (ju s.ids s.u)++(tx s.d++[]))):=by
  unfold Sn.oct;erw[aj L,aj J];rewrite[gN,gN];erw[aj fO];rewrite[a_];simp only[aC]
 have S:=I.d;have g:s.oct.length<=100000:=by exact dK g rfl
 generalize s.oct=d at h0 g;erw[Zg,Ir R rfl g (lv j rfl),(c G),Zg,Al R rfl h0 N g (lv j rfl),(h1),Zg,Al R rfl h1 M g (lv j rfl),(h2),Zg,Zq,Za,Gf R rfl h2 r g (lv j rfl),(h3),Zb,zE R I.ids (dK r rfl) (lv j rfl),(D A F f z)];have Y:=F _ _ us;have V:∀y,Ext H (upd H c y):=λy=>Ext.fresh Ext.refl G;have W:=(m_ Y).symm;have T:A.c≠c:=λe=>by have:=f.c;rw[e,cY] at this;injection this
 erw[aj W,Zg,Gf R rfl h3 (dK S rfl) g (lv j rfl),(h4),Zk,Pu R rfl h4 g (lv j rfl),Zt,ZQ,Zah rfl rfl rfl rfl,(b C),aD (bo C),(B U9),<-pQ R (lv j rfl) ⟨rfl,?_⟩];have e1:Ext H (upd D c (cO d (0+(vr i).length+(vr t).length+(tx (ju s.ids s.u)).length+(tx s.d).length))):=λx mo p=>ae (ne_sn p G) (F _ _ (V _ _ _ p));have k:∀{x y},D x=some y->x≠c->(upd (upd D c (cO d (0+(vr i).length+(vr t).length+(tx (ju s.ids s.u)).length+(tx s.d).length))) b (.inst 533 [(1,.int i),(0,.int t),(11,.ref A.c),(3,.bytes s.d)])) x=some y:=λ{x y} p si=>ae (ne_sn p B) (ae si p);have m:∀{x},(upd H c (cO d (0+(vr i).length+(vr t).length+(tx (ju s.ids s.u)).length))) x=none->x≠c:=λh=>(bo h).2;refine bH Ext.refl (q _ b A (Ext.fresh e1 (aI e1 C)) ⟨aI e1 C,aI (V _) f.c,aI (V _) f.v,aI (V _) f.l,aI (V _) f.o,aI (V _) f.n⟩ ⟨?_,k z.c (m f.c),k z.v (m f.v),k z.l (m f.l),k z.o (m f.o),k z.n (m f.n)⟩);rw[cY];unfold Sn.O;erw[aj L,aj J];rfl
theorem nY(R:Rd af w K){z:Cm}(B:z.An)(I:z.In)(a:aB 5 n=true)(q:∀c,H c=none->Q (.ref c) (upd H c z.o)):aY af w K n 652 [.bytes z.oct] H Q X:=by
 erw[R.th.to rfl a,(n a)];have r:rE z.k:=⟨I.k0,by have:=I.k6;exact SU this⟩;erw[cA ⟨eJ r,eJ I.c,eJ I.n⟩,(D x v),ay D,(k ek A),ay x,(F t C),ay v,(m s y)];have h0:z.oct.drop 0=vr k++(vr F++(vr m++(tx z.key++(tx z.val++(JV z.ex++[]))))):=by
  unfold Cm.oct;erw[aj ek,aj t,aj s];rewrite[gN,gN,gN];erw[aj fO];rewrite[a_];simp only[aC]
 have f:=B.key;have U:=B.val;have i:=B.ex;have l:=I.k6;have g:z.oct.length<=100000:=by
  have P:=eE r;have O:=eE I.c;have N:=eE I.n;have M:=fN 9 _ (aM f (dc rfl));have L:=fN 9 _ (aM U (dc rfl));have J:(JV z.ex).length<=300:=by
   cases e:z.ex with
   |none=>decide
   |some b=>
    have j:=i b e;have G:=fN 9 _ (aM j (dc rfl));unfold JV tx;simp only[ah,aV];exact fe [(av,zn 10),(aW,zn 200)] (zp (zn 1) (zp av aW),zn 300) rt G j
  unfold Cm.oct tx;simp only[ah];exact bW (lq (zc8 _ _ _ _ _ _ _ _) [(av,zn 200),(aW,zn 200),(bT,zn 10),(f9,zn 10),(tf,zn 10),(D5,zn 10),(UY,zn 10),(zx7,zn 300),(zs (zn 100000),zp (zp (zp (zp (zp bT f9) tf) (zp D5 av)) (zp UY aW)) zx7)] rt f U P O N M L J)
 generalize z.oct=d at h0 g;erw[Zae,Zg,Ir R rfl g (lv a rfl),(c E),Zg,Al R rfl h0 A g (lv a rfl),(h1),Zg,Al R rfl h1 C g (lv a rfl),(h2),Zg,Al R rfl h2 y g (lv a rfl),(h3),Zg,Gf R rfl h3 (dK f rfl) g (lv a rfl),(h4),Zg,Gf R rfl h4 (dK U rfl) g (lv a rfl),(h5),Zg,Zz rfl,Bb R h5 (λb e=>by have:=i b e;exact dK this rfl) g (lv a rfl),(h6),Zk,Pu R rfl h6 g (lv a rfl),Ze,Zd,Zh,Zj rfl rfl,<-j_ (λh=>absurd h (λW=>U1 [(cN,dW),(dW,yn 6),(ys (yn 6),cN)] rt (aF (ao ek)) l W)) (λ_=>?_),Zi,Ze,Zd,Zt,ZQ,Zr rfl,Zr rfl,Zah rfl rfl rfl rfl,(b j),aD (bo j),(p u),<-yl R (lv a rfl) ⟨rfl,?_⟩,aj (fw (aJ u))];have:=q b p;unfold Cm.o at this;rw[ek,t,s] at this;exact bH (Ext.fresh Ext.refl ((dp _ _ (aJ u)).trans E)) this
end
section
variable{G:Hp}
theorem dT.Lq(h:H m=some (.inst 578 fs))(k:dT H es xs):dT (upd H m z) es xs:=k.set h λx q=>by cases q
section
variable{d rest:List UInt8}{a i:Nat}{c:Addr}
theorem WH(R:Rd af w K){Q:Bool->Hp->Prop}(hr:ρ i=some (.ref c))(h:d.drop a=[fb t]++rest)(b:d.length<=100000)(e:aB 0 n=true)(q:d.drop (a+1)=rest->Q t (upd G c (cO d (a+1)))):tw af w K aG n (.bp (.loc i) 6 []) ρ (upd G c (cO d a)) Q X:=
 Zav (Zc hr (fj uV ⟨rfl,Zb (bt uV rfl (cf R h b e q))⟩))
theorem IA(n:c≠m)(h:aB k 27=true)(hl:dN fs.length 100=true)(q:P (upd (upd G m (.inst 578 (xB fs k v))) c y)):kX (.ref m) k v (upd (upd G m (.inst 578 fs)) c y) P:=by
 erw[bQ (ae (aJ n) us) h hl,aj (fw n)];rewrite[bR];exact q
theorem Pe(R:Rd af w K)(h1:ρ 1=some (.ref c))(h5:ρ 5=some (.ref ma))(b:c≠ma)(h:d.drop a=vr m++rest)(g:m<2^64)(e:d.length<=100000)(f:aB 2 n=true)(i:aB k 27=true)(hl:dN fs.length 100=true)(q:d.drop (a+(vr m).length)=rest->bO af w K aG n ms ρ (upd (upd G ma (.inst 578 (xB fs k (.int (m:Int))))) c (cO d (a+(vr m).length))) F X):bO af w K aG n (.cD fG k (.bp bA 4 [])::ms) ρ (upd (upd G ma (.inst 578 fs)) c (cO d a)) F X:=
 Zu (Al R h1 h g e f λj=>Zc h5 (IA b i hl (q j)))
end
noncomputable def del(H:Hp)(c:Addr):Hp:=λa=>if a=c then none else H a
theorem RC:del H c c=none:=if_pos rfl
theorem jD(n:a≠c)(h:H a=some x):del H c a=some x:=(if_neg n).trans h
theorem Oy:upd (del H c) c y=upd H c y:=funext λb=>by
 unfold upd del
 by_cases e:b=c
 ·erw[aj (if_pos e),aj (if_pos e)];rfl
 ·erw[aj (if_neg e),aj (if_neg e),aj (if_neg e)];rfl
theorem dT.del{H:Hp}{c:Addr}:∀{es:List Addr} {xs:List En},(∀e∈es,e≠c)->dT H es xs->dT (del H c) es xs
 |[],[],_,_=>trivial
 |_::_,_::_,n,h=>⟨jD (n _ j4) h.1,dT.del (λe a=>n e (fR a)) h.2⟩
 |[],_::_,_,h=>h.elim
 |_::_,[],_,h=>h.elim
theorem dT.off{H:Hp}:∀{es:List Addr} {xs:List En},(∀e∈es,e≠c)->dT H es xs->dT (upd H c y) es xs
 |[],[],_,_=>trivial
 |_::_,_::_,n,h=>⟨ae (n _ j4) h.1,dT.off (λe a=>n e (fR a)) h.2⟩
 |[],_::_,_,h=>h.elim
 |_::_,[],_,h=>h.elim
theorem D2:∀xs:List En,xs.length<=((xs.map λx=>tx x.oct).flatten).length
 |[]=>qt
 |x::l=>by
  erw[aj ah];have a:=D2 l;have w:=vw x.oct.length;erw[aj ah,<-yj [(zn 1,av),(aW,bT)] (zs aW,zp (zp av f9) bT) rt w a]
def jI(x:En):Prop:=x.k=0\/x.k=2
theorem n_(R:Rd af w K)(B:De h xs sn cj)(I:EM h xs)(zv:h 0<=20)(LB:∀s,sn=some s->s.oct.length<=2000)(b:(xk h xs sn rej cj).length<=100000)(a:aB 7 n=true)(q:(∀x∈xs,jI x)->∀k m' JZ qo M,Ext H k->Px H m' JZ qo->k m'=some (dD h JZ M rej cj)->k JZ=some (.list (aT qo))->dT k qo xs->A2 H k JZ M sn->m'≠JZ->Q (.ref m') k)(x:¬(∀x∈xs,jI x)->X 56 H):aY af w K n 596 [.bytes (xk h xs sn rej cj)] H Q X:=by
 erw[R.sF.to rfl a,(n a),ay (eJ (I.hi 0 (dc rfl))),(k0 e0 l0),ay (eJ (I.hi 1 (dc rfl))),(k1 e1 l1),ay (eJ (I.hi 2 (dc rfl))),(k2 e2 l2),ay (eJ (I.hi 3 (dc rfl))),(k3 e3 l3),ay (eJ (I.hi 4 (dc rfl))),(k4 e4 l4),ay (eJ (I.hi 5 (dc rfl))),(k5 e5 l5),ay (eJ (I.hi 6 (dc rfl))),(k6 e6 l6),ay (eJ (I.hi 7 (dc rfl))),(k7 e7 l7)];have h0:(xk h xs sn rej cj).drop 0=vr k0++(vr k1++(vr k2++(vr k3++(vr k4++(vr k5++(vr k6++(vr k7++([fb rej]++(vr xs.length++((xs.map λx=>tx x.oct).flatten++(y3 sn++(tx cj++[])))))))))))):=by
  unfold xk;erw[aj e0,aj e1,aj e2,aj e3,aj e4,aj e5,aj e6,aj e7,aj fO];rewrite[a_];simp only[gN,aC]
 have d4:=B.len;generalize xk h xs sn rej cj=d at h0 b;erw[Zg,Ir R rfl b (lv a rfl),(c hc),Zg,Al R rfl h0 l0 b (lv a rfl),(a0),Zh,Zj rfl rfl,<-j_ (λh=>absurd h (λWo=>U1 [(cN,dW),(dW,yn 20),(ys (yn 20),cN)] rt (aF (ao e0)) zv Wo)) (λ_=>?_),Zi,Ze,Zd,Zg,Al R rfl a0 l1 b (lv a rfl),(a1),Zg,Al R rfl a1 l2 b (lv a rfl),(a2),Zg,ZQ,Zr rfl,Zr rfl,Zr rfl,Za,Zm,Al R rfl a2 l3 b (lv a rfl),(a3),Zb,(m hm),aD (bo hm),(t hmc),<-nW R hm (lv a rfl) λg OI Tu=>⟨rfl,?_⟩,aD (bo OI),(Uh J)];have F:=aJ hmc;erw[aj (fw (aJ J)),aj (fw F)];unfold dD;erw[Pe R rfl rfl F a3 l4 b (lv a rfl) rfl rfl,(a4),Pe R rfl rfl F a4 l5 b (lv a rfl) rfl rfl,(a5),Pe R rfl rfl F a5 l6 b (lv a rfl) rfl rfl,(a6),Pe R rfl rfl F a6 l7 b (lv a rfl) rfl rfl,(a7),Zu,X4 R rfl a7 b (lv a rfl),(a8),Zc rfl,IA F rfl rfl];have a8':=a8;erw[oM,Zq,ZF rfl,uI R a8 (by erw[aj ah];have:=D2 xs;exact Vt this) b (lv a rfl),(a9),hY];generalize hO:(MO.inst 578 _)=O1;have g0:Ext H (upd (upd H g (.list [])) m O1):=Ext.fresh (Ext.fresh Ext.refl Uh) t;refine uS (dK d4 rfl) (λr ρ k=>∃N i ZF p G,k=upd G c (cO d p)/\G g=some (.list (aT ZF))/\G m=some O1/\dT G ZF N/\N++i=xs/\d.drop p=(i.map λx=>tx x.oct).flatten++(y3 sn++(tx cj++[]))/\Ext H G/\(∀e∈ZF,H e=none/\e≠c)/\ZF.Nodup/\(∀x∈N,jI x)/\r.length=i.length/\ρ 1=some (.ref c)/\ρ 5=some (.ref m)/\G c=none)
  ?_ (λρ k=>(HS · λN i ZF p G b1 O b3 b4 b5 b6 Y b8 b9 b10 D P U0 b14=>?_)) λv r ρ k ih=>(HS · λN i ZF p G b1 O b3 b4 b5 b6 Y b8 b9 b10 D P U0 b14=>?_)
 ·exact⟨[],xs,[],_,_,rfl,ae (aJ Tu) us,us,trivial,rfl,a9,g0,(λ_ h=>nomatch h),o5,(λ_ h=>nomatch h),by unfold nk;rewrite[aq];erw[aj d7];rfl,rfl,rfl,(dp _ _ F).trans ((dp _ _ (aJ J)).trans hc)⟩
 ·have:i=[]:=by
   induction i using lcs with
   |nil=>rfl
   |cons=>injection D
  replace this:=this.symm;subst this;rw[a_] at b5;subst b5;subst b1;rw[tp,rn,jA] at b6;have eG:=(m_ b3).symm;have fin:∀E p2 M O2,E c=none->O2=dD (λj=>if j<8 then h j else 0) g M rej []->d.drop p2=tx cj++[]->Ext H E->E g=some (.list (aT ZF))->dT E ZF N->A2 H E g M sn->E m=some O2->
    bO af w K aG n [.cD fG 20 (.bp bA 5 []),.expr (.bp bA 7 []),dj fG] ρ (upd E c (cO d p2)) (dE Q) (cG X):=λE p2 M O2 c0 c1 c2 c3 c4 c5 c6 c7=>by
   have eG2:=(m_ c7).symm;have cb:=B.cb;erw[aj eG2,aj c1];unfold dD;erw[Zu,Gf R P c2 (dK cb rfl) b (lv a rfl),(c8),<-Zc U0 ?_,IA F rfl rfl,Zk,Pu R P c8 b (lv a rfl),<-ZO U0 ?_];rw[c1] at c7;unfold dD at c7;erw[<-⟨_,Ext.fresh Ext.refl ?_,q b10 (upd E m (dD h g M rej cj)) m g ZF M (Ext.fresh c3 t) ⟨t,Uh,λe U=>(b8 e U).1,b9⟩ us (ae (aJ Tu) c4) (c5.Lq c7) (c6.set c7) Tu⟩,<-(dp _ _ F).trans c0]
  have V:O1=dD (λj=>if j<8 then h j else 0) g .none rej []:=by
   erw[c_ hO,c_ e4,c_ e5,c_ e6,c_ e7,c_ e0,c_ e1,c_ e2,c_ e3];rfl
  erw[Zh]
  induction sn using tT with
  |none=>
   erw[WH R P b6 b (lv a rfl),(b15),Zi,Ze,Zd,<-fin G _ .none O1 b14 V b15 Y O b4 .none b3]
  |some s=>
   have b6':d.drop p=[fb true]++(tx s.oct++(tx cj++[])):=by refine' aj b6 ?_;unfold y3;rw[aC]
   have Ee:=LB s rfl;erw[WH R P b6' b (lv a rfl),(b15),Gf R P b15 (dK Ee rfl) b (lv a rfl),(b16),Zb,AE R (B.sb s rfl) Ee (lv a rfl),(H3 sa A x3 f s3)];have Cu:=x3 _ _ us;have Ws:=x3 _ _ (ae (aJ F) b3);have Ro:Ext H (upd G c (cO d (p+1+(tx s.oct).length))):=λy mo hy=>ae (ne_sn hy hc) (Y _ _ hy);have eH3:H3=upd (upd (del H3 c) m O1) c (cO d (p+1+(tx s.oct).length)):=by
    erw[aj (m_ (jD (aJ F) Ws)),aj Oy,aj (m_ Cu)];rfl
   erw[<-Zc U0 ?_,aj eH3,aj V];unfold dD;erw[IA F rfl rfl,Ze,Zd];have nc:∀{y},(upd G c (cO d (p+1+(tx s.oct).length))) y=none->y≠c:=λh=>(bo h).2;have C:=jD (aJ F) Ws;have W:=V;unfold dD at W;have sd:Bf (del H3 c) sa A s:=⟨jD (nc f.o) s3.o,jD (nc f.co.c) s3.co.c,jD (nc f.co.v) s3.co.v,jD (nc f.co.l) s3.co.l,jD (nc f.co.o) s3.co.o,jD (nc f.co.n) s3.co.n⟩;refine fin _ _ (.ref sa) _ ((dp _ _ F).trans RC) rfl b16 (λy mo hy=>ae (ne_sn hy t) (jD (ne_sn hy hc) (x3 _ _ (Ro _ _ hy)))) (ae (aJ Tu) (jD J (x3 _ _ (ae J O)))) ?_ ?_ us
   ·rw[W] at C;exact((b4.off (λe U=>(b8 e U).2)).ext x3).del (λe U=>(b8 e U).2) |>.Lq C
   ·rw[W] at C;exact .some ⟨aI Ro f.o,aI Ro f.co.c,aI Ro f.co.v,aI Ro f.co.l,aI Ro f.co.o,aI Ro f.co.n⟩ (sd.set C) (f.co.ne (ae J O))
 ·induction i using lcs with
  |nil=>injection D
  |cons L i=>
   subst b1;have S:L∈xs:=by refine' c_ b5 ?_;simp
   have hxB:=B.xb L S;have hxI:=I.xi L S;have hd:=congrArg cF b5;rw[ah,aU] at hd;have b6':d.drop p=tx L.oct++((i.map λx=>tx x.oct).flatten++(y3 sn++(tx cj++[]))):=by
    erw[aj b6,aj dr,aj fy];rw[aC]
   have SX:(upd G c (cO d p)) m=some O1:=ae hmc b3;have LH:(upd G c (cO d p)) g=some (.list (aT ZF)):=ae J O;rw[<-hO] at SX;erw[Zk,Zm,<-Zl U0 ?_,aO SX rfl rfl,wD LH rfl,Gf R P b6' (aH (En.gK hxB.d hxI) (dc rfl)) b (lv a rfl),(abp),Zb,<-lE R hxI hxB.d (lv a rfl) (λhk e U=>?_) (λhk=>xe (λy mo hy=>ae (ne_sn hy hc) (Y _ _ hy)) (x λh=>hk (h _ S))),aD (bo U),(rA T)];have WB:(aT ZF).length<=100000:=by rewrite[bG];refine' aj b4.length ?_;exact zwc hd d4 rfl
   have YZ:=ne_sn O rA;erw[Zb,qQ (ae YZ (ae J O)) WB,Ze,<-⟨trivial,ih _ _ ⟨N++[L],i,ZF++[e],_,upd (upd G e L.o) g (.list (aT (ZF++[e]))),?_,us,ae Tu (ae (ne_sn b3 rA) b3),?_,by erw[c_ b5];rewrite[aC];rfl,abp,?_,λy hy=>?_,?_,λy hy=>?_,by simpa using D,P,U0,(dp _ _ (aJ J)).trans ((dp _ _ (aJ T)).trans b14)⟩⟩]
   ·erw[aj (fw (aJ T)),aj (fw (aJ J))];unfold aT;erw[aj aX];rfl
   ·have b4':dT (upd G e L.o) (ZF++[e]) (N++[L]):=dT.app (b4.ext (Ext.fresh Ext.refl rA)) ⟨us,trivial⟩;exact b4'.set (ae YZ O) λy q=>by injection q
   ·erw[(y mo hy),<-ae (ne_sn hy Uh) (ae (ne_sn hy (aI Y rA)) (Y _ _ hy))]
   ·rcases cC.mp hy with hy|hy
    ·exact b8 y hy
    ·erw[aj (aR.mp hy),<-⟨aI Y rA,T⟩]
   ·refine iH.mpr ⟨b9,by simp,λy hy z hz' q=>?_⟩;rw[aR.mp hz'] at q;erw[ay (dT.mem b4 hy),(u _ hu)];rw[q,rA] at hu;injection hu
   ·rcases cC.mp hy with hy|hy
    ·exact b10 y hy
    ·erw[aj (aR.mp hy),<-hk]
end
section
variable{G:Hp}
def Y(y:Nat):Prop:=y<2^40
theorem Y.big(h:Y y):y<2^400:=aZ h (d0 (dc rfl) (dc rfl))
theorem Y.div(h:Y y)(k:Nat):Y (y / k):=aM (nK _ _) h
theorem MP{l:List Nat}(h:i<l.length):∃x∈l,(l.map λx:Nat=>V.int (x:Int))[i]?=some (.int (x:Int)):=
 ⟨l[i],fL h,by erw[aj (cP),aj (bx h)];rfl⟩
theorem tu(R:Rd af w K){i:Nat}(h:H a=some (.list (l.map λx:Nat=>V.int (x:Int))))(l0:l≠[])(c:l.length<=100)(j:∀x∈l,x<1000000)(f:i<=1000)(e:aB 0 n=true)(q:∀y:Nat,y<2^30->Q (.int (y:Int)) H):
  aY af w K n 743 [.ref a,.int (i:Int)] H Q X:=by
 erw[R.KA.to rfl e,(n e)];have hl:=nL.mpr l0;have b:(l.map λx:Nat=>V.int (x:Int)).length=l.length:=aq _;erw[ay (MP (fP i hl)),(x d k)];have d:=j x d;have g:i / l.length<=1000:=aH (nK _ _) f;erw[Zt,ZC,Z7,Zc rfl,ZI rfl,ZG rfl,dV h (lK b c rfl),aj b,dI (d3.mpr hl),aw h (lK b c rfl) (fh k),ZI rfl,ZI rfl,ZG rfl,dV h (lK b c rfl),aj b,dS (d3.mpr hl) (Y.big (aM f (dc rfl))) (d3.mpr (dK c rfl)),<-⟨du (dc rfl),du (by rw[cT];exact aM g (dc rfl)),?_⟩,Zw];have:=q (x+1009*(i / l.length)) (fe [(zs av,zn 1000000),(zm 1009 aW,zm 1009 (zn 1000))] (zs (zp av (zm 1009 aW)),zn ((2^30))) rt d (aP 1009 g));rw[bj,Int.natCast_mul] at this;exact bH Ext.refl this
theorem zO(e:Nat):(128:Int)^((e:Nat):Int).toNat=((128^e:Nat):Int):=by rw[aL];simp
theorem jc(R:Rd af w K)(b:Y y)(a:aB 0 n=true)(q:∀v:Nat,v<2^64->Q (.int (v:Int)) H):aY af w K n 750 [.int (y:Int)] H Q X:=by
 erw[R.Nv.to rfl a,(n a)];have c:y%11<11:=k_;have h2:y / 11%2<2:=k_;erw[Zh,Zy rfl,Zs rfl rfl,dI rfl,<-cq (λ_=>?_) (λs=>?_)]
 ·erw[Zp,ZO rfl,Z9,<-bH Ext.refl (q 18446744073709551615 (dc rfl))]
 ·have h:y%11<=9:=by exact(pa s).elim (λS=>ax.mp (oG [(ys cN,yn 10)] (cN,yn 9) rt S)) (λS=>bW (λ_=>UW [(ys cN,yn 11),(ys (yn 10),cN)] rt (bb.mpr k_) S))
  erw[Zi,Ze,Zd,Zt,ZC,Zv rfl,ZI rfl,Zs rfl rfl,dI rfl,<-⟨ir,ax.mpr (dJ [(zs av,zn 11)] (av,zn 1000) rt k_),by decide,?_⟩];rw[zO];erw[Z3,Zv rfl,Zs rfl rfl,dS rfl b.big rfl,dI rfl,Zw];have p:128^(y%11)<=128^9:=d0 (dc rfl) h;have p0:1<=128^(y%11):=Nat.one_le_pow _ _ (dc rfl);have:=q (128^(y%11)-1+y / 11%2) (have this:(128:Nat)^9=9223372036854775808:=(dc rfl);by exact gF [(av,zn 9223372036854775808),(aW,av),(zs bT,zn 2)] (zs (zp aW bT),zn 18446744073709551616) rt p (iW _ _) k_);rw[show(128^(y%11)-1+y / 11%2:Nat)=(128^(y%11):Nat)-1+((y / 11%2:Nat):Int) by exact da (zC [(cN,.sub dW (yn 1)),(fU,yp cN vF)] (fU,yp (.sub dW (yn 1)) vF) rt (aF (cW (p0))) (aF (bj _ _))) (zC [(.sub cN (yn 1),dW),(yp dW fU,vF)] (yp (.sub cN (yn 1)) fU,vF) rt (aF (ao (cW (p0)))) (aF (ao (bj _ _))))] at this;exact bH Ext.refl this
theorem xm(R:Rd af w K)(c:Y y)(b:aB 0 n=true)(q:∀v:Int,¬rE v->big v->Q (.int v) H):aY af w K n 757 [.int (y:Int)] H Q X:=by
 erw[R.Ea.to rfl b,(n b)];have a:=c;erw[Zh,Zy rfl,Zs rfl rfl,dI rfl,<-cq (λ_=>?_) (λs=>?_)]
 ·erw[Zp,Zt,Zs rfl rfl,Zw,Z9,<-bH Ext.refl (q _ (λh=>by have:=h.2;exact cH [(zp (zn 18446744073709551616) av,zn 18446744073709551615)] rt (ax.mp this)) (du (JS (Nat.add_lt_add_left a _) rfl)))]
 ·erw[Zi,Ze,Zd,Zt,Zs rfl rfl,Z3,<-bH Ext.refl (q _ (λh=>s (by have e:=Nat.le_zero.mp (ax.mp (Int.sub_nonneg.mp h.1));rw[e];rfl)) (du (by rw[Int.zero_sub,Int.natAbs_neg];exact JS a rfl)))]
theorem md(R:Rd af w K)(a:Y y)(h:aB 0 n=true)(q:∀b:List UInt8,b.length<=129->Q (.bytes b) H):aY af w K n 764 [.int (y:Int)] H Q X:=by
 erw[R.Lb.to rfl h,(n h)];have d:y / 256%8<8:=k_;have g:y%256<256:=k_;erw[Zt,Z8,Zv rfl,ZX,Za,eP rfl,Za,Zs rfl rfl,dI rfl,ZE rfl rfl,(c f),Zb,vc us rfl (λi hi=>?_) (aE rfl)]
 ·rcases bE.mp hi with rfl|hi
  ·exact⟨ax.mpr (dJ [] (zn 0,av) rt),bb.mpr (dJ [(zs av,zn 256)] (zs av,zn 256) rt k_)⟩
  ·rcases bE.mp hi with rfl|hi
   ·decide
   ·erw[aj (aR.mp hi)];decide
 erw[<-⟨List.cons_ne_nil _ _,by decide,by decide,by show 3<=1000;decide,?_⟩,ZW,Z5,Z7,iX rfl,Zr rfl,Zr rfl,Zr rfl,Zr rfl,Zah rfl rfl rfl rfl,Zv rfl,Zs rfl rfl,dS rfl a.big rfl,dI rfl];have e:∃k:Nat,k<=129/\([V.int 3,.int 0,.int 129,.int 1,.int 128,.int 2,.int 127,.int 5])[((y / 256%8:Nat):Int).toNat]?=some (.int k):=by
  rw[aL];refine Vx d ?_ ?_ ?_ ?_ ?_ ?_ ?_ ?_
  ·exact⟨3,by decide,rfl⟩
  ·exact⟨0,by decide,rfl⟩
  ·exact⟨129,by decide,rfl⟩
  ·exact⟨1,by decide,rfl⟩
  ·exact⟨128,by decide,rfl⟩
  ·exact⟨2,by decide,rfl⟩
  ·exact⟨127,by decide,rfl⟩
  ·exact⟨5,by decide,rfl⟩
 erw[ay e,(k J T),Kr (dc rfl) ir T,hY,<-LF trivial ⟨Be,bb.mpr (dJ [(av,zn 129)] (zs av,zn ((2^60))) rt J)⟩ ?_ ?_]
 ·show(kK 44 (toBytes [(y%256:Nat),200,0])).flatten.length<=1000000;erw[aj List.length_flatten,aj List.map_replicate];show(kK 44 3).sum<=1000000
  decide
 ·refine bH (Ext.fresh Ext.refl f) (q _ ?_);unfold cut;dsimp only;erw[aj fO,aj dO];rewrite[aL];erw[aH (ua _ _),<-J]
end
section
variable{G:Hp}
noncomputable def Ic(m g i:Nat):Nat:=m / 128^i%128+(if i+1<g then 128 else 0)
theorem MX:∀(g m:Nat),m<128^(g+1)->(g=0\/128^g<=m)->((gp (g+1)).map λi=>cM (Ic m (g+1) i))=vr m
 |0,m,h,_=>by
  have b:m<128:=by simpa using h
  erw[aj (qP b)];show[cM (m / 128^0%128+0)]=_;rewrite[Nat.pow_zero,Nat.div_one];erw[aj (A6 b)];rw[Nat.add_zero]
 |g+1,m,h,hg=>by
  have a:=hg.resolve_left YG;have h1:=aH (by rw[kS];exact Nat.le_mul_of_pos_left _ (Nat.pow_pos (dc rfl))) a;erw[aj (AK h1),aj tn,aj dr,aj eg]
  congr 1
  ·show cM (m / 128^0%128+(if 0+1<g+1+1 then 128 else 0))=_;rewrite[Nat.pow_zero,Nat.div_one];erw[aj (if_pos (dJ [] (zs (zs (zn 0)),zs (zs av)) rt))];rfl
  ·have c:=MX g (m / 128) (by rw[lT (dc rfl),<-kS];exact h) (by
    by_cases q:g=0
    ·exact .inl q
    ·exact .inr ((Nat.le_div_iff_mul_le (dc rfl)).mpr (by rw[<-kS];exact a)))
   erw[c_ c,dQ,(i _)];show cM (m / 128^(i+1)%128+(if i+1+1<g+1+1 then 128 else 0))=cM (m / 128 / 128^i%128+(if i+1<g+1 then 128 else 0));rw[kS,tP,<-Nat.div_div_eq_div_mul]
   congr 2
   by_cases q:i+1<g+1
   ·erw[aj (if_pos q),aj (if_pos (fe [(zs av,aW)] (zs (zs av),zs aW) rt q))];rfl
   ·erw[aj (if_neg q),aj (if_neg (Gp [(av,aW),(zs (zs aW),zs av)] rt (bW q)))];rfl
theorem xG(f:Nat->Nat):∀l:List Nat,kT (l.map λi=>V.int ((f i:Nat):Int))=some (l.map λi=>((f i:Nat):Int))
 |[]=>rfl
 |i::l=>by
  show(kT (l.map _)).map (_:: ·)=_;erw[aj (xG f l)];rfl
theorem FV(R:Rd af w K)(y:m<2^64)(x:aB 0 n=true)(q:Q (.bytes (vr m)) H):aY af w K n 769 [.int (m:Int)] H Q X:=by
 erw[R.Qt.to rfl x,(n x),Z1 rfl,CW,(P z)];have f:∀k g ρ,g+k=9->ρ 0=some (.int m)->ρ 1=some (.int (g+1:Nat))->(g=0\/128^g<=m)->P ρ H:=by
  intro k;have o:∀g ρ,g<=9->ρ 0=some (.int m)->ρ 1=some (.int (g+1:Nat))->(g=0\/128^g<=m)->m<128^(g+1)->
    bO af w K aG n [dj (.call .bytes [(.j6 (.bin .Add (.bin .Mod (.bin .FloorDiv aN (.bin .Pow (ek 128) (.loc 1000))) (ek 128)) (.ite (.cmp .Lt (.bin .Add (.loc 1000) (ek 1)) bA) (ek 128) (ek 0))) bA)])] ρ H (dE Q) (cG X):=λg ρ a b r h1 h2=>by
   erw[Zt,ZX,Za,Zag,<-Zc r ?_,<-JC (λv=>match v with| .int i=>.int (Ic m (g+1) i.toNat:Nat)|_=>.none) (OJ a rfl) (λi p G d=>?_) λc C=>?_]
   ·have t:i<=9:=by exact fe [(zs av,zs aW),(aW,zn 9)] (av,zn 9) rt p a
    have d:G (.int (Ic m (g+1) i:Nat)) H:=by
     have:=d;dsimp only at this
     rwa [aL] at this
    erw[ZC,Zv rfl,<-ZI b ?_,Zs rfl rfl,<-⟨ir,ax.mpr (fe [(zs av,zs aW),(aW,zn 9)] (av,zn 1000) rt p a),by decide,?_⟩];rw[zO];have B:0<128^i:=Nat.pow_pos (dc rfl);have s:128^i<=128^9:=d0 (dc rfl) t;erw[<-⟨du (by rw[cT];exact b_ y (dc rfl)),du (by rw[cT];exact aM s (dc rfl)),Tz B,?_⟩,aj (o_ _ ir)];rewrite[<-Int.natCast_ediv];erw[dI rfl,Zak,<-Zy r ?_,Zs rfl rfl,Zw,<-fC (λh=>?_) (λh=>?_)]
    ·erw[Zp,ZA,Zw];have:Ic m (g+1) i=m / 128^i%128+128:=by unfold Ic;refine' aj (if_pos (fe [(zs (zs av),aW)] (zs (zs av),aW) rt (bb.mp h))) ?_;rfl
     rw[this] at d;exact d
    ·erw[Zi,ZA,Zw];have:Ic m (g+1) i=m / 128^i%128+0:=by unfold Ic;refine' aj (if_neg (λF=>Gp [(av,zs aW),(zs (zs aW),av)] rt (ax.mp h) F)) ?_;rfl
     rw[this] at d;exact d
   ·erw[Zb];have D:((gp (g+1)).map λi:Nat=>(match (V.int i) with| .int i=>V.int (Ic m (g+1) i.toNat:Nat)|_=>V.none))=(gp (g+1)).map λi:Nat=>V.int (Ic m (g+1) i:Nat):=
     dQ λi _=>by dsimp only;rw[aL]
    refine vc (l:=(gp (g+1)).map λi:Nat=>((Ic m (g+1) i:Nat):Int)) us ?_ (λi p=>?_) (by rewrite[aq];erw[aj d7,<-OJ a rfl]) ?_
    ·erw[aj D,<-xG _ _]
    ·erw[ay (cK.mp p),(j _ E)];subst E;have:Ic m (g+1) j<256:=by
      unfold Ic;have:=fP (m / 128^j) (show 0<128 by decide)
      split
      ·exact J0 this 128
      ·exact b_ this (dc rfl)
     exact⟨ax.mpr (dJ [] (zn 0,av) rt),bb.mpr (dJ [(zs av,zn 256)] (zs av,zn 256) rt this)⟩
    ·have e:toBytes ((gp (g+1)).map λi:Nat=>(Ic m (g+1) i:Nat))=vr m:=by
      unfold toBytes;erw[aj eg,c_ (MX g m h2 h1)];exact dQ λi _=>by
       show cM (((Ic m (g+1) i:Nat):Int)).toNat=_;rw[aL]
     erw[aj e,<-bH (Ext.fresh Ext.refl C) q]
  induction k with
  |zero=>
   intro g ρ a b r h1;have u:g=9:=by exact aS (dJ [(zk av 0,zn 9)] (av,zn 9) rt (aa a)) (dJ [(zn 9,zk av 0)] (zn 9,av) rt (aa (ao a)))
   have h2:m<128^(g+1):=by refine' aj u ?_;exact aZ y (dc rfl)
   erw[z ρ H,ZH,<-Zc b ?_,ZI rfl,<-Zc r ?_,<-⟨ir,ax.mpr (dJ [(zk av 0,zn 9)] (zs av,zn 1000) rt (aa a)),by decide,?_⟩];rw[zO];erw[<-nQ (λh=>absurd (ax.mp h) (DB.mpr h2)) (λ_=>?_),Zi,<-o g ρ (dJ [(zk av 0,zn 9)] (av,zn 9) rt (aa a)) b r h1 h2]
  |succ k A=>
   erw[(g ρ a b r h1),z ρ H,ZH,<-Zc b ?_,ZI rfl,<-Zc r ?_,<-⟨ir,ax.mpr (fe [(zp av aW,zn 9)] (zs av,zn 1000) rt (aa a)),by decide,?_⟩];rw[zO];refine nQ (λh=>?_) (λh=>?_)
   ·erw[Zp,Zg,Zv rfl,<-Zc r ?_,Zw,Ze,<-Ci (A (g+1) _ (aS (fe [(zp av (zs aW),zn 9)] (zp (zs av) aW,zn 9) rt (aa a)) (fe [(zn 9,zp av (zs aW))] (zn 9,zp (zs av) aW) rt (aa (ao a)))) b ?_ (.inr (Rh h))),aj (show(g+1:Nat)+1=((g+1+1:Nat):Int) by exact OQ)];rfl
   ·erw[Zi,<-o g ρ (fe [(zp av aW,zn 9)] (av,zn 9) rt (aa a)) b r h1 (zo7 h)]
 exact f 9 0 _ rfl rfl rfl (.inl rfl)
theorem Wz(h:rE i):∃k:Nat,i=k/\k<2^64/\vi i=vr k:=by
 erw[ay (eJ h),(k e l),<-⟨k,e,l,by erw[aj e];rw[gN]⟩]
theorem jO(R:Rd af w K)(h:rE i)(a:aB 0 n=true)(q:Q (.bytes (vi i)) H):aY af w K n 769 [.int i] H Q X:=by
 erw[cX (Wz h),(k e l b)];rw[b] at q;erw[aj e,<-FV R l a q]
theorem jN(R:Rd af w K)(h:b.length<=50000)(a:aB 1 n=true)(q:Q (.bytes (tx b)) H):aY af w K n 776 [.bytes b] H Q X:=by
 erw[R.Mo.to rfl a,(n a)];have:=fN 9 _ (aM h (dc rfl));erw[Zt,Zv rfl,Zq,Za,ZG rfl,eZ (dK h rfl),Zb,FV R (aM h (dc rfl)) (lv a rfl),fH (N6 this h rfl),<-bH Ext.refl q]
theorem iy(R:Rd af w K){y:Nat}(g:rE old)(f:y<2^39)(h:aB 1 n=true)(q:∀v:Nat,v<2^64->Q (.int (v:Int)) H):aY af w K n 783 [.int old,.int (y:Int)] H Q X:=by
 erw[R.HL.to rfl h,(n h)];have c:Y y:=b_ f (dc rfl);have b:Y (y+2):=by exact dJ [(zs av,zn 549755813888)] (zs (zk av 2),zn 1099511627776) rt f
 have d:=eE g;erw[Zg,Zz rfl,jc R c (lv h rfl),(v a)];have e:=fN 9 _ (aZ a (dc rfl));erw[Zh,ZH,ZN,Za,Zz rfl,FV R a (lv h rfl),Zb,eZ (dK e rfl),ZN,Za,Zz rfl,jO R g (lv h rfl),Zb,eZ (dK d rfl),<-cq (λ_=>?_) (λ_=>?_)]
 ·erw[Zp,Zg,Zq,Za,Zs rfl rfl,Zw,Zb,jc R b (lv h rfl),(v a),Ze,Zd,ZO rfl,<-bH Ext.refl (q v a)]
 ·erw[Zi,Ze,Zd,ZO rfl,<-bH Ext.refl (q v a)]
theorem i9(R:Rd af w K)(d:old.length<=200)(c:Y y)(a:aB 1 n=true)(q:∀b:List UInt8,b.length<=130->Q (.bytes b) H):aY af w K n 790 [.bytes old,.int (y:Int)] H Q X:=by
 erw[R.wU.to rfl a,(n a),Zg,Zz rfl,md R c (lv a rfl),(b h),Zh,ZH,ZG rfl,eZ (dK h rfl),ZG rfl,eZ (dK d rfl),<-cq (λ_=>?_) (λ_=>?_)]
 ·erw[Zp,Zg,Zs rfl rfl,fH (by exact OJ h rfl),Ze,Zd,ZO rfl,<-bH Ext.refl (q _ (by erw[aj ah,<-OJ h rfl]))]
 ·erw[Zi,Ze,Zd,ZO rfl,<-bH Ext.refl (q b (dK h rfl))]
theorem mw(R:Rd af w K){e:En}(h:H r=some (.list e.vs))(I:e.In)(c:e.d.length<=200)(a:aB 2 n=true)(q:Q (.bytes e.oct) H):aY af w K n 797 [.ref r] H Q X:=by
 erw[R.Hj.to rfl a,(n a)];have J:=eE I.t;have f:=eE I.i;have b:=eE I.k;have g:=En.gK c I;have h4:e.vs.length<=100000:=dc rfl;erw[Zt,ZC,ZC,ZC,Zq,Za,Zf rfl rfl,aw h h4 rfl,Zb,jO R I.t (lv a rfl),Zq,Za,Zf rfl rfl,aw h h4 rfl,Zb,jO R I.i (lv a rfl),fH (N6 J f rfl),Zq,Za,Zf rfl rfl,aw h h4 rfl,Zb,jO R I.k (lv a rfl),fH (aj ah (VG J f b)),Zq,Za,Zf rfl rfl,aw h h4 rfl,Zb,jN R (dK c rfl) (lv a rfl)];have:(vi e.t++vi e.i++vi e.k++tx e.d).length<=300:=g;rw[ah] at this;erw[fH (dK this rfl),<-bH Ext.refl q]
end
section
variable{G:Hp}
section
variable{G:Bool->Prop}
theorem PC(h:G true):jF .Eq (.bytes b) (.bytes b) H G:=by
 show G (b==b);rw[beq_self_eq_true];exact h
theorem MI(h:G true):jF .Eq (.int b) (.int b) H G:=by
 show G (b==b);rw[beq_self_eq_true];exact h
theorem Kz(p:plain 9 (.tup vs)=true)(h:G true):jF .Eq (.tup vs) (.tup vs) H G:=⟨rfl,p,h⟩
theorem Mc(h1:H a=some (.list vs))(h2:H b=some (.list vs))(p:vs.all (plain 9)=true)(h:G true):jF .Eq (.ref a) (.ref b) H G:=by
 exact gP h1 (gP h2 ⟨rfl,p,h⟩)
theorem pO(h:G false):jF .NotEq (.bytes b) (.bytes b) H G:=PC h
theorem Xf(h:G false):jF .NotEq (.int b) (.int b) H G:=MI h
theorem Ib(p:plain 9 (.tup vs)=true)(h:G false):jF .NotEq (.tup vs) (.tup vs) H G:=⟨rfl,p,h⟩
theorem RJ(h1:H a=some (.list vs))(h2:H b=some (.list vs))(p:vs.all (plain 9)=true)(h:G false):jF .NotEq (.ref a) (.ref b) H G:=Mc h1 h2 p h
end
structure Pr(H:Hp)(p e r:Addr)(x:En):Prop where
 p:H p=some (.list [.ref e,.ref r])
 e:H e=some x.o
 r:H r=some (.list x.vs)
theorem Pr.ext{p e r:Addr}(h:Pr H p e r x)(k:Ext H H'):Pr H' p e r x:=⟨k _ _ h.p,k _ _ h.e,k _ _ h.r⟩
structure En.Good(x:En):Prop where
 b:x.An
 i:x.In
theorem mU(R:Rd af w K)(h:Pr H p e r x)(g:x.Good)(c:aB 3 n=true)(q:Q (.bool true) H):aY af w K n 818 [.ref p] H Q X:=by
 erw[R.B5.to rfl c,(n c)];have f:=h.p;have k:=h.e;have hr:=h.r;have j:=g.b.d;have l:=En.gK j g.i;have h2:([V.ref e,.ref r]).length<=100000:=dc rfl;have h4:x.vs.length<=100000:=dc rfl;have a:=k;unfold En.o at a;erw[Zt,ZY,Zac,Zm,Zf rfl rfl,aw f h2 rfl,bC a rfl,Zb,bt a rfl,<-kM R k g.b (lv c rfl) (λ_=>?_) (λz=>absurd g.i z),ZN,Za,Zq,Za,Zf rfl rfl,aw f h2 rfl,Zb,mw R hr g.i j (lv c rfl),Zb,eZ (dK l rfl),MI,Zx,Zp,Zac,Zm,Zf rfl rfl,aw f h2 rfl,bC a rfl,Zb,bt a rfl,xC R k j (lv c rfl),ZN,Za,Zo rfl,Zf rfl rfl,aw f h2 rfl,aw hr h4 rfl,Zb,eZ (dK j rfl),MI,<-bH Ext.refl q]
theorem uG(R:Rd af w K)(g:x.Good)(a:aB 5 n=true)(q:jI x->Q (.tup x.vs) H)(f:¬jI x->Q .none H):aY af w K n 825 [.bytes x.oct] H Q X:=by
 erw[R.vM.to rfl a,(n a),ZV,Zt,Zm,Zz rfl,<-lE R g.i g.b.d (lv a rfl) (λe c j=>?_) (λe=>⟨rfl,λl=>bH Ext.refl (f e)⟩)];have h:(upd H c x.o) c=some (.inst 407 [(0,.int x.t),(1,.int x.i),(2,.int x.k),(3,.bytes x.d)]):=us;erw[<-fj h ⟨rfl,?_⟩,Zb,bt h rfl,jE R us (lv a rfl),<-bH (Ext.fresh Ext.refl j) (q e)]
theorem Ab(x:En):plain 9 (.tup x.vs)=true:=rfl
theorem oj(R:Rd af w K)(h:Pr H p e r x)(g:x.Good)(a:aB 6 n=true)(q:Q (.bool true) H):aY af w K n 832 [.ref p] H Q X:=by
 erw[R.M9.to rfl a,(n a)];have f:=h.p;have k:=h.e;have hr:=h.r;have m:=g.b.d;have h2:([V.ref e,.ref r]).length<=100000:=dc rfl;have h4:x.vs.length<=100000:=dc rfl;have s:x.vs.length<=1000:=dc rfl;have j:=k;unfold En.o at j;erw[Zg,Zq,Za,Zf rfl rfl,aw f h2 rfl,Zb,mw R hr g.i m (lv a rfl),Zh,ZT,Zn,ZP,Zaa rfl,mU R h g (lv a rfl),Zx,ZM,Zn,Zy rfl,Zq,Za,Zf rfl rfl,aw f h2 rfl,Zb,<-jb R k g.b (lv a rfl) (λ_=>?_) (λz=>absurd g.i z),pO,ZM,Zn,ZH,Zm,Zf rfl rfl,aw f h2 rfl,bC j rfl,Zb,bt j rfl,jE R k (lv a rfl),ZL,Za,Zf rfl rfl,aw f h2 rfl,Zb,gf hr (by assumption),Ib (Ab x),ZM,ZD,Zi,Ze,Zd,Zh,ZT,Zn,Zy rfl,Zo rfl,Zf rfl rfl,aw f h2 rfl,aw hr h4 rfl];have c:jI x->bO af w K aG n [dj (.cmp .Eq (bD 825 [bA]) (.call .tuple [(bw aN 1)]))] (upd (sr ([.ref p]++[])) 1 (.bytes x.oct)) H (h_ af w K n [dj (.qG (bD 825 [bA]) false)] (dE Q) (cG X)) (cG X):=λl=>by
  erw[Zt,Zac,Zz rfl,<-uG R g (lv a rfl) (λ_=>?_) (λz=>absurd l z),ZL,Za,Zf rfl rfl,aw f h2 rfl,Zb,gf hr (by assumption),Kz (Ab x),Z9,<-bH Ext.refl q]
 refine cq (λh0=>?_) (λh0=>?_)
 ·erw[Z2,Zp,<-c (.inl h0)]
 ·erw[ZM,Zn,Zy rfl,Zo rfl,Zf rfl rfl,aw f h2 rfl,aw hr h4 rfl,<-cq (λh1=>?_) (λh1=>?_)]
  ·erw[Z2,Zp,<-c (.inr h1)]
  ·erw[ZM,ZD,Zi,Ze,Zd,Zt,Zad,Zz rfl,<-uG R g (lv a rfl) (λz=>absurd z (λz=>z.elim h0 h1)) (λ_=>?_),kY rfl,<-bH Ext.refl q]
end
noncomputable def rJ(m:Int):Nat->Nat->List Nat->Nat
 |_,k,[]=>k
 |q9,k,x::xs=>if 0<k/\m<(q9+x:Nat) then k else rJ m (q9+x) (k+1) xs
theorem Tc:rJ m t k (x::xs)=if 0<k/\m<(t+x:Nat) then k else rJ m (t+x) (k+1) xs:=rfl
theorem DF(m:Int):∀(xs:List En)(q k:Nat),lim m q k xs=rJ m q k (xs.map λx=>x.oct.length)
 |[],_,_=>rfl
 |x::xs,q,k=>by
  show(if _ then _ else _)=(if _ then _ else _);rw[DF m xs]
theorem xJ(m:Int):∀(ws:List Nat)(e k:Nat),k<=rJ m e k ws/\rJ m e k ws<=k+ws.length/\
  (rJ m e k ws<k+ws.length->0<rJ m e k ws/\m<(e+(ws.take (rJ m e k ws-k+1)).sum:Nat))/\
  (rJ m e k ws=k\/rJ m e k ws=1\/(e+(ws.take (rJ m e k ws-k)).sum:Nat)<=m)
 |[],e,k=>⟨qt,qt,λh=>absurd h (iD _),.inl rfl⟩
 |x::ws,e,k=>by
  rw[Tc]
  by_cases q:0<k/\m<(e+x)
  ·erw[aj (if_pos q),<-⟨qt,vt,λ_=>⟨q.1,?_⟩,.inl rfl⟩]
   simpa using q.2
  ·erw[aj (if_neg q),dX (xJ m ws (e+x) (k+1)),(a b c d)];generalize rJ m (e+x) (k+1) ws=j at a b c d;have g:j-k=j-(k+1)+1:=by exact aS (yj [(zp av aW,bT),(bT,zp f9 (zs aW))] (av,zs f9) rt (aa (bM (fe [(zs av,aW)] (av,aW) rt a))) (aa (ao (bM (fe [(zs av,aW)] (zs av,aW) rt a))))) (yj [(zp av (zs aW),bT),(bT,zp f9 aW)] (zs av,f9) rt (aa (bM (fe [(zs av,aW)] (zs av,aW) rt a))) (aa (ao (bM (gF [(zp av (zs aW),bT)] (aW,bT) rt (aa (bM (fe [(zs av,aW)] (zs av,aW) rt a))))))))
   refine⟨fe [(zs av,aW)] (av,aW) rt a,gF [(av,zp (zs aW) bT)] (av,zp aW (zs bT)) rt b,λh=>?_,?_⟩
   ·erw[aD (c (gF [(zs av,zp aW (zs bT))] (zs av,zp (zs aW) bT) rt h)),(l i),<-⟨l,?_⟩,aj g,aj List.take_succ_cons,aj E6];rewrite[<-q5];exact i
   ·erw[aj g,aj E6];rewrite[<-q5];rcases d with d|d|d
    ·by_cases f:k=0
     ·exact .inr (.inl (aS (fe [(av,zn 0),(aW,zs av)] (aW,zn 1) rt (aa f) (aa d)) (fe [(zs av,aW)] (zn 1,aW) rt (aa (ao d)))))
     ·erw[<-.inr (.inr ?_),aj d];rewrite[ou];erw[aj List.sum_nil,<-gq.mp λh=>q ⟨Nat.pos_of_ne_zero f,h⟩]
    ·exact .inr (.inl d)
    ·exact .inr (.inr d)
noncomputable def xt(m:Int)(ws:List Nat):Nat->Nat
 |0=>min 1 ws.length
 |k+1=>if((ws.take (k+1)).sum:Nat)<=m then k+1 else xt m ws k
theorem Up:xt m ws (k+1)=if((ws.take (k+1)).sum:Nat)<=m then k+1 else xt m ws k:=rfl
theorem BP(m:Int)(ws:List Nat):∀k,k<=ws.length->xt m ws k<=ws.length/\(∀i,xt m ws k<i->i<=k->m<((ws.take i).sum:Nat))/\(xt m ws k<=1\/((ws.take (xt m ws k)).sum:Nat)<=m)/\(1<=ws.length->1<=xt m ws k)
 |0,_=>⟨gT _ _,λi h1 h2=>by
   have:i=0:=by exact aS (dJ [(av,zn 0)] (av,zn 0) rt h2) (dJ [] (zn 0,av) rt)
   subst this;exact absurd h1 (uf _),.inl (ua _ _),λh=>by exact Nat.le_min.mpr ⟨qt,h⟩⟩
 |k+1,h=>by
  rw[Up]
  by_cases q:((ws.take (k+1)).sum)<=m
  ·erw[aj (if_pos q),<-⟨h,λi h1 h2=>absurd h2 (DB.mpr h1),.inr q,λ_=>ia _⟩]
  ·erw[aj (if_neg q),dX (BP m ws k (Nat.le_of_succ_le h)),(a b c d),<-⟨a,λi h1 h2=>?_,c,d⟩]
   by_cases e:i=k+1
   ·subst e;exact o9.mp q
   ·exact b i h1 ((ik e).elim (λC=>fe [(zs av,zs aW)] (av,aW) rt C) (λC=>(Gp [(av,zs aW),(zs (zs aW),av)] rt h2 C).elim))
theorem M8(ws:List Nat)(h:i<=j):(ws.take i).sum<=(ws.take j).sum:=by
 erw[bf (Nat.le.dest h),(k e)];subst e;erw[aj List.take_add,aj List.sum_append,<-vt]
theorem Ow(m:Int)(ws:List Nat):rJ m 0 0 ws=xt m ws ws.length:=by
 erw[dX (xJ m ws 0 0),(_ a d a4),dX (BP m ws ws.length qt),(k i b3 g)];generalize rJ m 0 0 ws=j at*;generalize xt m ws ws.length=f at*;rw[II] at a d;have b:∀z:Nat,(0+(ws.take z).sum)=(ws.take z).sum:=λz=>II _;rw[b] at a4;rcases Nat.lt_trichotomy j f with h|h|h
 ·erw[aD (d (gF [(zs av,aW),(aW,bT)] (zs av,bT) rt h k)),(e c)];have:=M8 ws (show j+1<=f by exact W4 h);rcases b3 with b3|b3
  ·exact absurd (aZ h b3) (tN.mpr e)
  ·exact absurd (zw (ax.mpr this) b3) (o9.mpr (by rw[b] at c;exact c))
 ·exact h
 ·have h2:=i j h a;rcases a4 with a4|a4|a4
  ·exact aS (fe [(av,zn 0)] (av,aW) rt (aa a4)) (fe [(zs av,aW)] (av,aW) rt h)
  ·exact absurd (g (a4▸a)) (DB.mpr (a4▸h))
  ·exact aS (bW (λ_=>U1 [(ys cN,dW),(dW,cN)] rt h2 a4)) (bW (λ_=>U1 [(ys cN,dW),(dW,cN)] rt h2 a4))
section
variable{G:Hp}
def j7(H:Hp):List Addr->List En->Prop
 |[],[]=>True
 |r::rs,x::xs=>H r=some (.list x.vs)/\j7 H rs xs
 |_,_=>False
theorem j7.ext{H:Hp}(k:Ext H H'):∀{es:List Addr} {xs:List En},j7 H es xs->j7 H' es xs
 |[],[],_=>trivial
 |_::_,_::_,h=>⟨k _ _ h.1,j7.ext k h.2⟩
 |[],_::_,h=>h.elim
 |_::_,[],h=>h.elim
theorem j7.length{H:Hp}:∀{es:List Addr} {xs:List En},j7 H es xs->es.length=xs.length
 |[],[],_=>rfl
 |_::_,_::_,h=>congrArg (· +1) (j7.length h.2)
 |[],_::_,h=>h.elim
 |_::_,[],h=>h.elim
theorem j7.take{H:Hp}:∀{r:List Addr} {xs:List En} (k:Nat),j7 H r xs->j7 H (r.take k) (xs.take k)
 |_,_,0,_=>by refine' aj kL ?_;trivial
 |[],[],_+1,_=>trivial
 |_::_,_::_,k+1,h=>⟨h.1,j7.take k h.2⟩
 |[],_::_,_+1,h=>h.elim
 |_::_,[],_+1,h=>h.elim
theorem dT.take{H:Hp}:∀{r:List Addr} {xs:List En} (k:Nat),dT H r xs->dT H (r.take k) (xs.take k)
 |_,_,0,_=>by refine' aj kL ?_;trivial
 |[],[],_+1,_=>trivial
 |_::_,_::_,k+1,h=>⟨h.1,dT.take k h.2⟩
 |[],_::_,_+1,h=>h.elim
 |_::_,[],_+1,h=>h.elim
theorem tv(f:En->V)(h:H a=some (.list (aT es)))(l:xs.length<=1000)(k:j7 H es xs)(m:∀e x,x∈xs->H e=some (.list x.vs)->∀G:V->Hp->Prop,G (f x) H->dk af w K aG n elt (upd ρ 1000 (.ref e)) H G Du)(q:∀c,H c=none->Q (.ref c) (upd H c (.list (xs.map f)))):sU af w K n elt none ρ Q (.ref a) H:=by
 have hl:(aT es).length<=1000:=by unfold aT;rewrite[aq];refine' aj k.length ?_;exact l
 refine sS h hl (λr d j=>j=H/\∃ZE b i,r=aT ZE/\b++i=xs/\d=b.map f/\j7 H ZE i) ⟨rfl,es,[],xs,rfl,rfl,rfl,k⟩ (λd j=>gk λe=>(mR · λZE b i e1 e2 e3 e4=>?_)) λv r d j=>gk λe=>(mR · λZE b i e1 e2 e3 e4 G g=>?_)
 ·subst e
  induction ZE using lcs with
  |cons=>injection e1
  |nil=>
   induction i using lcs with
   |cons=>exact e4.elim
   |nil=>
    rw[a_] at e2;replace e2:=e2.symm;subst e2;subst e3;exact q
 ·subst e
  induction ZE using lcs with
  |nil=>injection e1
  |cons e ZE=>
   induction i using lcs with
   |nil=>exact e4.elim
   |cons x i=>
    injection e1 with e1 e5
    subst e1;subst e5;exact m e x (by erw[c_ e2];simp) e4.1 G (g _ _ h ⟨rfl,ZE,b++[x],i,rfl,by erw[c_ e2];rewrite[aC];rfl,by erw[aj e3,aj aX];rfl,e4.2⟩)
theorem Dl(l:List V)(k:Nat):cut l none (some (k:Int))=l.take k:=by
 unfold cut;dsimp only;rewrite[aL];erw[aj fO];rfl
theorem AD:∀ws:List Nat,(ws.map λz:Nat=>(z:Int)).sum=((ws.sum:Nat):Int)
 |[]=>rfl
 |z::ws=>by refine' aj dr ?_;refine' aj E6 ?_;refine' aj (AD ws) ?_;exact PS
theorem DJ(R:Rd af w K)(ha:H a=some (.list (aT es)))(s:H b=some (.list (aT rs)))(p:dT H es xs)(hr:j7 H rs xs)(g:∀x∈xs,x.Good)(l:xs.length<=50)(hy:Y y)(P:aB 3 n=true)(q:Q (.bool true) H):
  aY af w K n 837 [.ref a,.ref b,.int (y:Int)] H Q X:=by
 erw[R.HW.to rfl P,(n P)];have M:(aT rs).length=xs.length:=by rewrite[bG];refine' aj hr.length ?_;rfl
 have QN:∀x∈xs,x.oct.length<=300:=λx p=>En.gK (g x p).b.d (g x p).i;erw[Zg,ZJ,Zc rfl,<-tv (λx=>.int (x.oct.length:Nat)) s (dK l rfl) hr (λe x W J G' T=>?_) λc hc=>?_]
 ·have ho:=QN x W;erw[ZN,Za,Zz rfl,mw R J (g x W).i (g x W).b.d (lv P rfl),Zb,eZ (dK ho rfl),<-T]
 ·have ex:Ext H (upd H c (.list (xs.map λx=>.int ((x.oct.length:Nat):Int)))):=Ext.fresh Ext.refl hc;have hb':=ex _ _ s;have ha':=ex _ _ ha;have E:(xs.map λx=>V.int ((x.oct.length:Nat):Int)).length=xs.length:=aq _;generalize B:xs.map (λx=>x.oct.length)=ws;have r:ws.length=xs.length:=by refine' c_ B ?_;rw[aq]
  have ecv:(xs.map λx=>V.int (x.oct.length:Nat))=ws.map λz:Nat=>V.int z:=by refine' c_ B ?_;refine' aj eg ?_;rfl
  rw[ecv] at ex E⊢;have WQ:∀k:Nat,kT ((ws.map λz:Nat=>V.int z).take k)=some ((ws.take k).map λz:Nat=>(z:Int)):=λk=>by
   erw[c_ jy,<-xG (λz=>z) _]
  have hm:y%(xs.length+1)<=xs.length:=iJ k_;have QP:∀d L,H d=none->Ext H (upd (upd H c (.list (ws.map λz:Nat=>V.int z))) d L):=λd L hd=>Ext.fresh ex hd;erw[Zg,Zv rfl,ZC,Zaq,Za,Z8,Zc rfl,ZW,Z5,ZI rfl,Zv rfl,ZG rfl,dV (ae (ne_sn s hc) s) (lK M l rfl),Zw,aj M,dI (d3.mpr spo),hY,qh us trivial ⟨Be,bb.mpr (fe [(av,zn 50),(aW,av)] (zs aW,zn ((2^60))) rt l hm)⟩ (lK E l rfl),(d hd)];rw[Dl];erw[aD (bo hd),(D hdc),Zb,Hv us (WQ _) (by rewrite[aq];erw[aj dO,<-aH (gT _ _) (lK r l rfl)])];rw[AD];erw[Zv rfl,Zs rfl rfl,dS rfl hy.big rfl,dI rfl,Zw];generalize Tu:(((ws.take (y%(xs.length+1))).sum:Nat):Int)+((y / 7%3:Nat):Int)-1=m;erw[Z3,Zg,Zau,Zr rfl,Za,ZG rfl,dV (ae (ne_sn s D) (ae (ne_sn s hc) s)) (lK M l rfl),Zb,Zao,oM,ZG rfl,dV (ae (ne_sn s D) (ae (ne_sn s hc) s)) (lK M l rfl),hY,aj M];refine uS (dK l rfl) (λA ρ u=>∃done,done++A=nk xs.length/\ρ 0=some (.ref a)/\ρ 1=some (.ref b)/\ρ 3=some (.ref c)/\ρ 4=some (.int m)/\ρ 5=some (.int ((xt m ws done.length:Nat):Int))/\Ext H u/\u c=some (.list (ws.map λz:Nat=>V.int (z:Int))))
   ?_ (λρ u=>(NX · λdone e1 r0 r1 r3 O N I t=>?_)) λv A ρ u ih=>(NX · λdone e1 r0 r1 r3 O N I t=>?_)
  ·refine⟨[],rfl,rfl,rfl,rfl,congrArg (λz=>some (V.int z)) Tu,?_,QP d _ D,ae (aJ hdc) us⟩;show some (V.int (min 1 ((xs.length:Nat):Int)))=some (V.int ((min 1 ws.length:Nat):Int));erw[aj r]
   congr 2
   exact mnc
  ·rw[a_] at e1;have V3:done.length=xs.length:=by refine' aj e1 ?_;unfold nk;rewrite[aq];refine' aj d7 ?_;rfl
   rw[V3,<-r,<-Ow] at N;have S:rJ m 0 0 ws<=100:=by
    have:=(xJ m ws 0 0).2.1;exact gF [(av,aW),(aW,zn 50),(bT,zp (zn 0) av)] (bT,zn 100) rt (aa r) l this
   erw[Zt,Zac,ZJ,<-ZU r0 O ?_,<-uJ R (I _ _ ha) (p.ext I) (λx p=>(g x p).b) (dK l rfl) (.inl λx p=>(g x p).i) (lv P rfl) (λ_ f hf=>?_) (λz=>absurd (λx p=>(g x p).i) z)];rewrite[DF];erw[aj B];generalize rJ m 0 0 ws=j at N S;have G:∀L,Ext H (upd u f L):=λL=>Ext.fresh I (aI I hf);refine Aj (λx=>.tup x.vs) us (aj dO (aH (gT _ _) (dK l rfl))) ((p.take j).ext (G _)) (λe x W J G' T=>?_) λf2 U_=>?_
   ·have rA:=J;unfold En.o at rA;erw[Zm,Zc rfl,bC rA rfl,Zb,bt rA rfl,<-jE R J (lv P rfl) T]
   ·erw[ZJ,Z8,<-Zc r1 ?_,ZW,Z5,<-Zc N ?_,hY];have hbb:(upd (upd u f (.list (aT (es.take j)))) f2 (.list ((xs.take j).map λx=>.tup x.vs))) b=some (.list (aT rs)):=Ext.fresh (G _) (aI (G _) U_) _ _ s;erw[qh hbb trivial ⟨Be,bb.mpr (dJ [(av,zn 100)] (zs av,zn ((2^60))) rt S)⟩ (aj M (dK l rfl)),(f3 Vd)];have ecu:cut (aT rs) none (some (j:Int))=aT (rs.take j):=by rw[Dl];unfold aT;refine' aj jy ?_;rfl
    erw[aj ecu];have F:Ext H (upd (upd (upd u f (.list (aT (es.take j)))) f2 (.list ((xs.take j).map λx=>.tup x.vs))) f3 (.list (aT (rs.take j)))):=Ext.fresh (Ext.fresh (G _) (aI (G _) U_)) (aI (Ext.fresh (G _) (aI (G _) U_)) Vd);refine tv (λx=>.tup x.vs) us (aj dO (aH (gT _ _) (dK l rfl))) ((hr.take j).ext F) (λe x W J G' T=>?_) λf4 Q9=>?_
    ·have h4:x.vs.length<=1000:=dc rfl;erw[ZL,ZF rfl,gf J (by assumption),<-T]
    ·erw[Mc (ae ?_ (ae ?_ us)) us (cJ.mpr λv hv=>?_)]
     ·exact λe=>(bo (bo Q9).1).2 e.symm
     ·exact λe=>by refine aD (bo Vd) ?_;intro h1 h2;exact h2 e.symm
     ·erw[ay (cK.mp hv),(x _ iL)];subst iL;exact Ab x
     ·exact bH (Ext.fresh F (aI F Q9)) q
  ·have hv:v=.int (done.length:Int):=by
    have:(nk xs.length)[done.length]?=some v:=by refine' c_ e1 ?_;simp
    have C:done.length<xs.length:=by
     have:=congrArg cF e1;unfold nk at this;rw[ah,aU,aq,d7] at this;exact Rq this
    unfold nk at this;rw[cP,J1 C] at this;exact(bV this).symm
   subst hv;have C:done.length<xs.length:=by
    have:=congrArg cF e1;unfold nk at this;rw[ah,aU,aq,d7] at this;exact Rq this
   erw[Zh,<-Zy O ?_,Zaq,Za,Z8,<-Zc r3 ?_,ZW,Z5,Zs rfl rfl,Zw,hY,aj (show((done.length:Nat):Int)+1=((done.length+1:Nat):Int) by exact OQ),qh t trivial ⟨Be,bb.mpr (fe [(zs av,aW),(aW,zn 50)] (zs (zs av),zn ((2^60))) rt C l)⟩ (lK E l rfl),(f hf)];rw[Dl];erw[Zb,Hv us (WQ _) (by rewrite[aq];erw[aj dO,<-aH (gT _ _) (lK r l rfl)])];rw[AD];have U:Ext H (upd u f (.list ((ws.map λz:Nat=>V.int (z:Int)).take (done.length+1)))):=Ext.fresh I (aI I hf);have Bk:(upd u f (.list ((ws.map λz:Nat=>V.int (z:Int)).take (done.length+1)))) c=some (.list (ws.map λz:Nat=>V.int (z:Int))):=ae (ne_sn t hf) t;refine DV (λh=>?_) (λh=>?_)
   ·erw[Zp,Zg,Zs rfl rfl,Zw,Ze,Zd,Ze,<-⟨trivial,ih _ _ ⟨done++[.int (done.length:Int)],by erw[c_ e1];rewrite[aC];rfl,r0,r1,r3,O,?_,U,Bk⟩⟩,aj ah,aj aV];rewrite[xt];erw[aj (if_pos h)];rfl
   ·erw[Zi,Ze,Zd,Ze,<-⟨trivial,ih _ _ ⟨done++[.int (done.length:Int)],by erw[c_ e1];rewrite[aC];rfl,r0,r1,r3,O,?_,U,Bk⟩⟩,aj ah,aj aV];rewrite[xt];erw[aj (if_neg (o9.mpr h)),<-N]
end
section
variable{G:Hp}
theorem EJ(R:Rd af w K){x:En}(h:H a=some x.o)(b:x.An)(r:¬x.In)(c:aB 2 n=true)(q:Q (.bool true) H):aY af w K n 844 [.int 0,.ref a] H Q X:=by
 erw[R.pb.to rfl c,(n c)];have d:=h;unfold En.o at d;erw[ZV,Zh,Zj rfl rfl,<-cq (λ_=>?_) (λz=>absurd rfl z),Zp,Zk,Zm,Zc rfl,bC d rfl,Zb,bt d rfl,<-kM R h b (lv c rfl) (λz=>absurd z r) (λ_=>⟨rfl,λ_=>bH Ext.refl q⟩)]
theorem Ec(R:Rd af w K){x:En}(h:H a=some x.o)(b:x.An)(r:¬x.In)(c:aB 4 n=true)(q:Q (.bool true) H):aY af w K n 844 [.int 1,.ref a] H Q X:=by
 erw[R.pb.to rfl c,(n c),ZV,Zh,Zj rfl rfl,d8 rfl,Zi,Zh,Zj rfl rfl,<-cq (λ_=>?_) (λz=>absurd rfl z),Zp,Zk,Zz rfl,<-jb R h b (lv c rfl) (λz=>absurd z r) (λ_=>⟨rfl,λ_=>bH Ext.refl q⟩)]
theorem yQ(R:Rd af w K)(d:H m=some (dD h me v rej cj))(e:H me=some (.list (aT es)))(b:dT H es xs)(c:EK H v sn)(B:De h xs sn cj)(r:¬EM h xs)(a:aB 7 n=true)(q:Q (.bool true) H):aY af w K n 844 [.int 2,.ref m] H Q X:=by
 erw[R.pb.to rfl a,(n a),ZV,Zh,Zj rfl rfl,d8 rfl,Zi,Zh,Zj rfl rfl,d8 rfl,Zi,Zh,Zj rfl rfl,<-cq (λ_=>?_) (λz=>absurd rfl z),Zp,Zk,Zz rfl,<-fS R d e b c B (lv a rfl) (λz=>absurd z r) (λ_=>⟨rfl,λ_=>bH Ext.refl q⟩)]
theorem ET(R:Rd af w K)(d:H a=some (.list (aT es)))(c:dT H es xs)(B:∀x∈xs,x.An)(b:xs.length<=100)(r:¬∀x∈xs,x.In)(h:aB 3 n=true)(q:Q (.bool true) H):aY af w K n 844 [.int 3,.ref a] H Q X:=by
 erw[R.pb.to rfl h,(n h),ZV,Zh,Zj rfl rfl,d8 rfl,Zi,Zh,Zj rfl rfl,d8 rfl,Zi,Zh,Zj rfl rfl,d8 rfl,Zi,Zk,ZU rfl rfl,<-uJ R d c B b (.inr (ax.mpr (dJ [(zm 300 av,zm 300 (zn 100))] (zm 300 av,zn 99999) rt (aP 300 b)))) (lv h rfl) (λz=>absurd z r) (λ_=>⟨rfl,λ_=>bH Ext.refl q⟩)]
noncomputable def En.d6(x:En)(f:Nat)(v:Int):En:=match f with
 |0=>⟨v,x.i,x.k,x.d⟩
 |1=>⟨x.t,v,x.k,x.d⟩
 |_=>⟨x.t,x.i,v,x.d⟩
noncomputable def En.Lx(x:En)(b:List UInt8):En:=⟨x.t,x.i,x.k,b⟩
theorem En.Good.d6{x:En}(g:x.Good)(f:Nat)(h:rE v):(x.d6 f v).Good:=by
 rcases g with⟨⟨b1,b2,b3,b4⟩,⟨i1,i2,i3⟩⟩
 match f with
 |0=>exact⟨⟨lh h,b2,b3,b4⟩,⟨h,i2,i3⟩⟩
 |1=>exact⟨⟨b1,lh h,b3,b4⟩,⟨i1,h,i3⟩⟩
 |_+2=>exact⟨⟨b1,b2,lh h,b4⟩,⟨i1,i2,h⟩⟩
theorem En.Good.Lx{x:En}(g:x.Good){b:List UInt8}(h:b.length<=200):(x.Lx b).Good:=
 ⟨⟨g.b.t,g.b.i,g.b.k,h⟩,⟨g.i.t,g.i.i,g.i.k⟩⟩
theorem mG(R:Rd af w K)(h:Pr H p e r x)(d:f<=2)(c:aB 0 n=true)(q:Q .none (upd (upd H r (.list (x.d6 f v).vs)) e (x.d6 f v).o)):aY af w K n 804 [.ref p,.int (f:Int),.int v] H Q X:=by
 erw[R.K8.to rfl c,(n c)];rcases h with⟨hp,he,hr⟩
 have h2:([V.ref e,.ref r]).length<=100000:=dc rfl;have h4:x.vs.length<=100000:=dc rfl;have g:=fQ hp hr (λz=>by cases z);have b:=fQ he hr (λz=>by injection z);unfold En.o at he;erw[ZK,Zc rfl,Zf rfl rfl,aw hp h2 rfl,Zc rfl,i_ hr h4 ir (by exact bb.mpr (dJ [(av,zn 2)] (zs av,zn 4) rt d))];rw[aL];have a:∀y,(upd H r y) p=some (.list [.ref e,.ref r]):=λy=>ae g hp;revert q;refine UG (gh d) ?_ ?_ ?_
 ·erw[(q),Zh,Zj rfl rfl,<-cq (λ_=>?_) (λz=>absurd rfl z),Zp,Zu,Zc rfl,Zf rfl rfl,aw (a _) h2 rfl,bQ (ae b he) rfl rfl,Ze,Zd,Ze,<-cR Ext.refl q]
 ·erw[(q),Zh,Zj rfl rfl,d8 rfl,Zi,Zh,Zj rfl rfl,<-cq (λ_=>?_) (λz=>absurd rfl z),Zp,Zu,Zc rfl,Zf rfl rfl,aw (a _) h2 rfl,bQ (ae b he) rfl rfl,Ze,Zd,Ze,Zd,Ze,<-cR Ext.refl q]
 ·erw[(q),Zh,Zj rfl rfl,d8 rfl,Zi,Zh,Zj rfl rfl,d8 rfl,Zi,Zh,Zj rfl rfl,<-cq (λ_=>?_) (λz=>absurd rfl z),Zp,Zu,Zc rfl,Zf rfl rfl,aw (a _) h2 rfl,bQ (ae b he) rfl rfl,Ze,Zd,Ze,Zd,Ze,Zd,Ze,<-cR Ext.refl q]
theorem O5(R:Rd af w K)(h:Pr H p e r x)(c:aB 0 n=true)(q:Q .none (upd (upd H r (.list (x.Lx b).vs)) e (x.Lx b).o)):aY af w K n 804 [.ref p,.int 3,.bytes b] H Q X:=by
 erw[R.K8.to rfl c,(n c)];rcases h with⟨hp,he,hr⟩
 have h2:([V.ref e,.ref r]).length<=100000:=dc rfl;have h4:x.vs.length<=100000:=dc rfl;have f:=fQ hp hr (λz=>by cases z);have d:=fQ he hr (λz=>by injection z);unfold En.o at he;erw[ZK,Zc rfl,Zf rfl rfl,aw hp h2 rfl,Zc rfl,i_ hr h4 (dc rfl) (dc rfl)];have a:∀y,(upd H r y) p=some (.list [.ref e,.ref r]):=λy=>ae f hp;erw[Zh,Zj rfl rfl,d8 rfl,Zi,Zh,Zj rfl rfl,d8 rfl,Zi,Zh,Zj rfl rfl,d8 rfl,Zi,Zu,Zc rfl,Zf rfl rfl,aw (a _) h2 rfl,bQ (ae d he) rfl rfl,Ze,Zd,Ze,Zd,Ze,Zd,Ze,<-cR Ext.refl q]
theorem HZ(R:Rd af w K){f y:Nat}(h:Pr H p e r x)(g:x.Good)(u:f<=3)(m:y<2^39)(a:aB 2 n=true)(q:∀x':En,x'.Good->Q .none (upd (upd H r (.list x'.vs)) e x'.o)):aY af w K n 811 [.ref p,.int (f:Int),.int (y:Int)] H Q X:=by
 erw[R.Gi.to rfl a,(n a)];have s:=h.p;have hr:=h.r;have c:Y y:=b_ m (dc rfl);have j:y / 3<2^39:=aM (nK _ _) m;have h2:([V.ref e,.ref r]).length<=100000:=dc rfl;have h4:x.vs.length<=100000:=dc rfl;erw[Zg,Zo rfl,Zf rfl rfl,aw s h2 rfl,<-VD (gh u) ?_ ?_ ?_ ?_]
 ·
  erw[aw hr h4 rfl,Zh,ZT,Zn,Zj rfl rfl,<-fC (λ_=>?_) (λz=>absurd z (dc rfl)),Z2,Zp,Zk,Zq,Zr rfl,Zr rfl,Za,Zq,Zr rfl,Za,Zs rfl rfl,dS rfl c.big rfl,Zb,iy R g.i.t j (lv a rfl),(v l),Zb,mG R h (dc rfl) (lv a rfl),Ze,Zd,Ze,<-cR Ext.refl (q _ (g.d6 0 ⟨ir,oE l⟩))]
 ·
  erw[aw hr h4 rfl,Zh,ZT,Zn,Zj rfl rfl,<-fC (λ_=>?_) (λz=>absurd z (dc rfl)),Z2,Zp,Zk,Zq,Zr rfl,Zr rfl,Za,Zq,Zr rfl,Za,Zs rfl rfl,dS rfl c.big rfl,Zb,iy R g.i.i j (lv a rfl),(v l),Zb,mG R h (dc rfl) (lv a rfl),Ze,Zd,Ze,<-cR Ext.refl (q _ (g.d6 1 ⟨ir,oE l⟩))]
 ·
  erw[aw hr h4 rfl,Zh,ZT,Zn,Zj rfl rfl,<-fC (λz=>absurd z (dc rfl)) (λ_=>?_),ZM,Zn,ZR,Zn,Zj rfl rfl,<-cq (λ_=>?_) (λz=>absurd rfl z),Zp,Zn,Zy rfl,Zs rfl rfl,dI rfl,<-cq (λ_=>?_) (λ_=>?_)]
  ·erw[Zp,ZD,Z2,Zp,Zk,Zq,Zr rfl,Zr rfl,Za,Zq,Zr rfl,Za,Zs rfl rfl,dS rfl c.big rfl,Zb,iy R g.i.k j (lv a rfl),(v l),Zb,mG R h (dc rfl) (lv a rfl),Ze,Zd,Ze,<-cR Ext.refl (q _ (g.d6 2 ⟨ir,oE l⟩))]
  ·erw[Zi,ZM,ZD,Zi,Zh,Zj rfl rfl,<-cq (λ_=>?_) (λz=>absurd rfl z),Zp,Zk,Zq,Zr rfl,Zr rfl,Za,Zak,Zj rfl rfl,<-cq (λ_=>?_) (λ_=>?_)]
   ·erw[Zp,ZA,Zb,mG R h (dc rfl) (lv a rfl),Ze,Zd,Ze,Zd,Ze,<-cR Ext.refl (q _ (g.d6 2 ⟨by decide,by decide⟩))]
   ·erw[Zi,ZA,Zb,mG R h (dc rfl) (lv a rfl),Ze,Zd,Ze,Zd,Ze,<-cR Ext.refl (q _ (g.d6 2 ⟨by decide,by decide⟩))]
 ·
  erw[aw hr h4 rfl,Zh,ZT,Zn,Zj rfl rfl,<-fC (λz=>absurd z (dc rfl)) (λ_=>?_),ZM,Zn,ZR,Zn,Zj rfl rfl,d8 rfl,Zi,ZM,ZD,Zi,Zh,Zj rfl rfl,d8 rfl,Zi,Zk,Zq,Zr rfl,Zr rfl,Za,ZU rfl rfl,i9 R g.b.d c (lv a rfl),(b A),Zb,O5 R h (lv a rfl),Ze,Zd,Ze,Zd,Ze,<-cR Ext.refl (q _ (g.Lx (aH A (dc rfl))))]
end
section
variable{G:Hp}
structure Tr where
 p:Addr
 e:Addr
 r:Addr
structure xn where
 sl:Addr
 s2:Addr
 a:Addr
 A:BE
structure CK where
 gl:Addr
 m:Addr
 nu:Addr
 g3:Addr
 me:Addr
 tr:List Tr
 sa:Option xn
def i8(H:Hp):List Tr->List En->Prop
 |[],[]=>True
 |t::ts,x::xs=>Pr H t.p t.e t.r x/\i8 H ts xs
 |_,_=>False
theorem i8.ext{H:Hp}(k:Ext H H'):∀{t:List Tr} {xs:List En},i8 H t xs->i8 H' t xs
 |[],[],_=>trivial
 |_::_,_::_,h=>⟨h.1.ext k,i8.ext k h.2⟩
 |[],_::_,h=>h.elim
 |_::_,[],h=>h.elim
theorem i8.length{H:Hp}:∀{t:List Tr} {xs:List En},i8 H t xs->t.length=xs.length
 |[],[],_=>rfl
 |_::_,_::_,h=>congrArg (· +1) (i8.length h.2)
 |[],_::_,h=>h.elim
 |_::_,[],h=>h.elim
theorem i8.OP{H:Hp}:∀{t:List Tr} {xs:List En},i8 H t xs->dT H (t.map (·.e)) xs
 |[],[],_=>trivial
 |_::_,_::_,h=>⟨h.1.e,i8.OP h.2⟩
 |[],_::_,h=>h.elim
 |_::_,[],h=>h.elim
theorem i8.rows{H:Hp}:∀{t:List Tr} {xs:List En},i8 H t xs->j7 H (t.map (·.r)) xs
 |[],[],_=>trivial
 |_::_,_::_,h=>⟨h.1.r,i8.rows h.2⟩
 |[],_::_,h=>h.elim
 |_::_,[],h=>h.elim
noncomputable def NM:Option xn->V
 |none=>.none
 |some z=>.ref z.sl
noncomputable def yN:Option xn->V
 |none=>.none
 |some z=>.ref z.a
noncomputable def Sn.vs(s:Sn)(s2:Addr):List V:=[.int s.i,.int s.t,.ref s2,.bool s.u,.bytes s.d]
structure nM(H:Hp)(z:xn)(s:Sn):Prop where
 sl:H z.sl=some (.list (s.vs z.s2))
 s2:H z.s2=some (.list (iv s.ids))
 sn:Bf H z.a z.A s
def tY(H:Hp):Option xn->Option Sn->Prop
 |none,none=>True
 |some z,some s=>nM H z s
 |_,_=>False
theorem tY.OC:∀{z:Option xn} {s:Option Sn},tY H z s->EK H (yN z) s
 |none,none,_=>.none
 |some _,some _,h=>.some h.sn
 |none,some _,h=>h.elim
 |some _,none,h=>h.elim
noncomputable def hl(h:Nat->Int):List V:=[.int (h 0),.int (h 1),.int (h 2),.int (h 3),.int (h 4),.int (h 5),.int (h 6),.int (h 7)]
def CK.gv(A:CK)(rej:Bool)(cj:List UInt8):List V:=[.ref A.m,.ref A.nu,.bool rej,.ref A.g3,NM A.sa,.bytes cj]
structure Mb(H:Hp)(A:CK)(h:Nat->Int)(xs:List En)(sn:Option Sn)(rej:Bool)(cj:List UInt8):Prop where
 g:H A.gl=some (.list (A.gv rej cj))
 m:H A.m=some (dD h A.me (yN A.sa) rej cj)
 nu:H A.nu=some (.list (hl h))
 g3:H A.g3=some (.list (aT (A.tr.map (·.p))))
 me:H A.me=some (.list (aT (A.tr.map (·.e))))
 BL:i8 H A.tr xs
 sn:tY H A.sa sn
theorem tY.ext{H:Hp}(k:Ext H H'):∀{z:Option xn} {s:Option Sn},tY H z s->tY H' z s
 |none,none,_=>trivial
 |some _,some _,h=>⟨k _ _ h.sl,k _ _ h.s2,h.sn.ext k⟩
 |none,some _,h=>h.elim
 |some _,none,h=>h.elim
theorem Mb.ext{H:Hp}(k:Ext H H'){s:Option Sn}(x:Mb H A h xs s rej cj):Mb H' A h xs s rej cj:=
 ⟨k _ _ x.g,k _ _ x.m,k _ _ x.nu,k _ _ x.g3,k _ _ x.me,x.BL.ext k,x.sn.ext k⟩
theorem xh:∀l:List Int,qk (l.map λi=>V.bytes (vi i))=some ((l.map vi).flatten)
 |[]=>rfl
 |i::l=>by
  show(qk (l.map _)).map (vi i++ ·)=_;erw[aj (xh l)];rfl
theorem zf:∀l:List Int,(∀i∈l,rE i)->((l.map vi).flatten).length<=10*l.length
 |[],_=>qt
 |i::l,h=>by
  erw[aj dr,aj fy,aj ah,aj aU];have a:=zf l (λj b=>h j (fR b));have w:=eE (h i j4);exact gF [(av,zm 10 aW),(bT,zn 10)] (zp bT av,zm 10 (zs aW)) rt a w
theorem AQ(h:ids.length<=30):ju ids u=toBytes [(ids.length:Int)]++(ids.map vi).flatten++toBytes [0,0,0,if u=true then 1 else 0]:=by
 have e:toBytes [ids.length]=vr ids.length:=by refine' aj (Gk ir (oG [(cN,yn 30)] (ys cN,yn 128) rt (ax.mpr h))) ?_;rw[gN]
 have z:mf []=[0]:=by unfold mf;refine' aj (qP (dc rfl)) ?_;rfl
 unfold ju;erw[aj z,aj e];unfold mf
 induction u using tQ<;>simp[toBytes,fb]
theorem Oz(R:Rd af w K)(h:nM H z s)(I:s.Ok)(f:aB 2 n=true)(q:s.oct.length<=2000->Q (.bytes s.oct) H):aY af w K n 849 [.ref z.sl] H Q X:=by
 erw[R.KV.to rfl f,(n f)];have j:=h.sl;have Y:=h.s2;have y:=I.ids.len;have P:(iv s.ids).length=s.ids.length:=by unfold iv;rw[aq]
 have h5:(s.vs z.s2).length<=100000:=dc rfl;have r:=zf s.ids I.ids.Iq;have m:=eE I.i;have k:=eE I.t;have F:=I.d;have o:∀l:List Int,(toBytes l).length=l.length:=λl=>by unfold toBytes;rw[aq]
 have N:(ju s.ids s.u).length<=400:=by
  erw[aj (AQ y)];simp only[ah,o];exact XE r y
 have M:(tx (ju s.ids s.u)).length<=420:=by
  have:=fN 9 _ (aM N (dc rfl));unfold tx;erw[aj ah,<-N6 this N rfl]
 have U:(tx s.d).length<=220:=by
  have:=fN 9 _ (aM F (dc rfl));unfold tx;erw[aj ah,<-N6 this F rfl]
 erw[Zg,ZC,ZC,ZX,Za,eP rfl,Za,ZN,Za,Zf rfl rfl,aw j h5 rfl,Zb,dV Y (lK P y rfl),Zb,aj P,(c hc)];have A:∀L,Ext H (upd H c L):=λL=>Ext.fresh Ext.refl hc;erw[Zb,vc us rfl (λi g=>by erw[aj (aR.mp g),<-⟨ax.mpr (dJ [] (zn 0,av) rt),bb.mpr (dJ [(av,zn 30)] (zs av,zn 256) rt y)⟩]) (aE rfl),Zm,ZA,<-Iu ⟨rfl,?_⟩,Za,ZJ,Zf rfl rfl,aw (A _ _ _ j) h5 rfl];have B:=A (.list [.int s.ids.length]) _ _ Y;refine comp_map (λv=>match v with| .int i=>.bytes (vi i)|_=>.none) B (lK P y rfl) (λv hv G' hG=>?_) λd E=>?_
 ·erw[ay (cK.mp hv),(i g eI)];subst eI;erw[Zz rfl,<-jO R (I.ids.Iq i g) (lv f rfl) hG]
 ·have em:(iv s.ids).map (λv=>match v with| .int i=>V.bytes (vi i)|_=>.none)=s.ids.map λi=>V.bytes (vi i):=by
   unfold iv;erw[aj eg];rfl
  erw[aj em];have D:=aI (A _) E;have J:∀L W,Ext H (upd (upd H c L) d W):=λL W=>Ext.fresh (A _) D;erw[Zb,LU us (xh _) (by rw[aq];exact dK y rfl) (Y1 r y rfl),fH (by rw[o];exact fe [(av,zm 10 aW),(zm 10 aW,zm 10 (zn 30))] (zp (zn 1) av,zn 1000000) rt r (aP 10 y)),ZX,Za,eP rfl,Zr rfl,Zr rfl,Zr rfl,Za,Zak,Zas,Zc rfl,ZA,aw (J _ _ _ _ j) h5 rfl];have G:∀e b,Ext H b->b e=none->bO af w K aG n [dj (.bin .Add (.bin .Add (.bin .Add (bD 769 [(bw aN 0)]) (bD 769 [(bw aN 1)])) (bD 776 [bA])) (bD 776 [(bw aN 4)]))] (upd (sr ([.ref z.sl]++[])) 1 (.bytes (ju s.ids s.u))) (upd b e (.list [.int 0,.int 0,.int 0,.int (if s.u=true then 1 else 0)])) (dE Q) (cG X):=λe b e1 e2=>by
   have x:∀L,Ext H (upd b e L):=λL=>Ext.fresh e1 (aI e1 e2);erw[Zt,ZC,ZC,ZC,Zq,Za,Zf rfl rfl,aw (x _ _ _ j) h5 rfl,Zb,jO R I.i (lv f rfl),Zq,Za,Zf rfl rfl,aw (x _ _ _ j) h5 rfl,Zb,jO R I.t (lv f rfl),fH (N6 m k rfl),Zz rfl,jN R (dK N rfl) (lv f rfl),fH (aj ah (gF [(av,zn 10),(aW,zn 10),(bT,zn 420)] (zp (zp av aW) bT,zn 1000000) rt m k M)),Zq,Za,Zf rfl rfl,aw (x _ _ _ j) h5 rfl,Zb,jN R (dK F rfl) (lv f rfl),fH (aj ah (aj ah (yj [(av,zn 10),(aW,zn 10),(bT,zn 220),(f9,zn 420)] (zp (zp (zp av aW) f9) bT,zn 1000000) rt m k U M)))];have:=q (by unfold Sn.oct;simp only[ah];exact yj [(av,zn 10),(aW,zn 10),(bT,zn 220),(f9,zn 420)] (zp (zp (zp av aW) f9) bT,zn 2000) rt m k U M);exact bH (x _) this
  have a:∀e b,Ext H b->b e=none->jG .bytes [.ref e] (upd b e (.list [.int 0,.int 0,.int 0,.int (if s.u=true then 1 else 0)])) (λv T=>kv .Add (.bytes (toBytes [s.ids.length]++(s.ids.map vi).flatten)) v T λv T=>bO af w K aG n [dj (.bin .Add (.bin .Add (.bin .Add (bD 769 [(bw aN 0)]) (bD 769 [(bw aN 1)])) (bD 776 [bA])) (bD 776 [(bw aN 4)]))] (upd (sr ([.ref z.sl]++[])) 1 v) T (dE Q) (cG X)):=λe b e1 e2=>by
   erw[vc us rfl (λi g=>?_) (aE rfl)]
   ·have:i=0\/i=1:=by cases p:s.u<;>rw[p] at g<;>simp at g<;>(first|assumption|exact .inl (g))
    exact⟨this.elim (λS=>oG [(yn 0,cN)] (yn 0,cN) rt (aF (ao S))) (λS=>oG [(yn 1,cN)] (yn 0,cN) rt (aF (ao S))),this.elim (λO=>oG [(cN,yn 0)] (ys cN,yn 256) rt (aF O)) (λO=>oG [(cN,yn 1)] (ys cN,yn 256) rt (aF O))⟩
   ·erw[fH (by erw[aj ah];rewrite[o,o];exact fe [(av,zm 10 aW),(zm 10 aW,zm 10 (zn 30))] (zk (zp (zn 1) av) 4,zn 1000000) rt r (aP 10 y)),c_ (AQ y),<-G e b e1 e2]
  cases p:s.u with
  |true=>
   rw[p] at a;erw[Zx,Zp,ZA,Zb,(e C),Zb,<-a e _ (J _ _) C]
  |false=>
   rw[p] at a;erw[Zx,Zi,ZA,Zb,(e C),Zb,<-a e _ (J _ _) C]
end
section
variable{G:Hp}
theorem Ay:∀xs:List En,(∀x∈xs,x.Good)->((xs.map λx=>tx x.oct).flatten).length<=310*xs.length
 |[],_=>qt
 |x::l,g=>by
  erw[aj ah];have a:=Ay l (λy c=>g y (fR c));have h:=En.gK (g x j4).b.d (g x j4).i;have w:=fN 9 _ (aM h (dc rfl));erw[aj ah,<-yj [(av,zn 10),(aW,zn 300),(bT,zm 310 f9)] (zp (zp av aW) bT,zm 310 (zs f9)) rt w h a]
structure uP(h:Nat->Int)(xs:List En)(sn:Option Sn)(cj:List UInt8):Prop where
 hi:∀j,j<8->rE (h j)
 zv:h 0<=20
 xg:∀x∈xs,x.Good
 len:xs.length<=10
 so:∀s,sn=some s->s.Ok
 c:cj.length<=200
theorem uP.big(o:uP h xs sn cj):De h xs sn cj:=
 ⟨λj d=>lh (o.hi j d),λx a=>(o.xg x a).b,o.len,o.so,o.c⟩
theorem uP.Iq(o:uP h xs sn cj):EM h xs:=⟨o.hi,λx a=>(o.xg x a).i⟩
theorem Sn.gK{s:Sn}(I:s.Ok):s.oct.length<=2000:=by
 have b:=eE I.i;have v:=eE I.t;have h:=I.d;have y:=I.ids.len;have f:=zf s.ids I.ids.Iq;have e:∀l:List Int,(toBytes l).length=l.length:=λl=>by unfold toBytes;rw[aq]
 have c:(ju s.ids s.u).length<=400:=by
  erw[aj (AQ y)];simp only[ah,e];exact XE f y
 have a:=fN 9 _ (aM c (dc rfl));have w:=fN 9 _ (aM h (dc rfl));unfold Sn.oct tx;simp only[ah];exact UX [(av,zn 10),(aW,zn 10),(bT,zn 200),(f9,zn 400),(tf,zn 10),(D5,zn 10)] (zp (zp (zp av aW) (zp tf f9)) (zp D5 bT),zn 2000) rt b v h c a w
theorem N0(o:∀s,sn=some s->s.Ok):(y3 sn).length<=2011:=by
 induction sn using tT with
 |none=>show 1<=2011;decide
 |some s=>
  have h:=Sn.gK (o s rfl);have:=fN 9 _ (aM h (dc rfl));unfold y3 tx;simp only[ah,aV];exact fe [(av,zn 10),(aW,zn 2000)] (zp (zn 1) (zp av aW),zn 2011) rt this h
theorem AJ(o:uP h xs sn cj):(xk h xs sn rej cj).length<=6000:=by
 have l0:=eE (o.hi 0 (dc rfl));have l1:=eE (o.hi 1 (dc rfl));have l2:=eE (o.hi 2 (dc rfl));have l3:=eE (o.hi 3 (dc rfl));have l4:=eE (o.hi 4 (dc rfl));have l5:=eE (o.hi 5 (dc rfl));have l6:=eE (o.hi 6 (dc rfl));have l7:=eE (o.hi 7 (dc rfl));have e:=Ay xs o.xg;have l:=o.len;have s:=N0 o.so;have c:=o.c;have a:=fN 9 _ (aM l (dc rfl));have w:=fN 9 _ (aM c (dc rfl));unfold xk tx at*;simp only[ah,aV];exact bW (lq (aa8 _ _ _ _ _ _ _ _ _ _ _ _ _ _) [(av,zn 10),(aW,zn 10),(bT,zn 10),(f9,zn 10),(tf,zn 10),(D5,zn 10),(UY,zn 10),(zx7,zn 10),(zx8,zm 310 zx9),(zm 310 zx9,zm 310 (zn 10)),(YH,zn 2011),(X0,zn 200),(YR,zn 10),(XY,zn 10),(zs (zn 6000),zp (zp (zp (zp (zs (zp (zp (zp (zp (zp (zp (zp av aW) bT) f9) tf) D5) UY) zx7)) YR) zx8) YH) (zp XY X0))] rt l0 l1 l2 l3 l4 l5 l6 l7 e (aP 310 l) s c a w)
theorem tY.qG(h:tY H z s):isNone (NM z)=some s.isNone:=by
 induction z using tT<;>cases s<;>first|rfl|exact h.elim
theorem rN(R:Rd af w K)(M:Mb H A h xs sn rej cj)(o:uP h xs sn cj)(y:aB 4 n=true)(q:Q (.bytes (xk h xs sn rej cj)) H):aY af w K n 854 [.ref A.gl] H Q X:=by
 erw[R.B7.to rfl y,(n y)];have k:=M.g;have h6:(A.gv rej cj).length<=100000:=dc rfl;have f:=AJ (rej:=rej) o;have N:=o.len;have U:(aT (A.tr.map (·.p))).length=xs.length:=by rewrite[bG,aq];refine' aj M.BL.length ?_;rfl
 have tb:∀l:List Int,(toBytes l).length=l.length:=λl=>by unfold toBytes;rw[aq]
 have Cu:=o.c;have eB:((hl h).map λv=>match v with| .int i=>V.bytes (vi i)|_=>.none)=[h 0,h 1,h 2,h 3,h 4,h 5,h 6,h 7].map λi=>V.bytes (vi i):=rfl;erw[Zg,ZC,Zm,<-Iu ⟨rfl,?_⟩,Za,ZJ,Zf rfl rfl,aw k h6 rfl,<-comp_map (λv=>match v with| .int i=>.bytes (vi i)|_=>.none) M.nu (dc rfl) (λv hv G' hG=>?_) λc hc=>?_]
 ·have:∃j,j<8/\v=.int (h j):=by
   unfold hl at hv;simp only[bE,AX,or_false] at hv;rcases hv with e|e|e|e|e|e|e|e
   ·exact⟨0,by decide,e⟩
   ·exact⟨1,by decide,e⟩
   ·exact⟨2,by decide,e⟩
   ·exact⟨3,by decide,e⟩
   ·exact⟨4,by decide,e⟩
   ·exact⟨5,by decide,e⟩
   ·exact⟨6,by decide,e⟩
   ·exact⟨7,by decide,e⟩
  erw[ay this];clear this;intro j hj eI;subst eI;erw[Zz rfl,<-jO R (o.hi j hj) (lv y rfl) hG]
 ·erw[aj eB];have C:∀L,Ext H (upd H c L):=λL=>Ext.fresh Ext.refl hc;have Y:=zf [h 0,h 1,h 2,h 3,h 4,h 5,h 6,h 7] (λi hi=>by
   simp only[bE,AX,or_false] at hi;rcases hi with e|e|e|e|e|e|e|e<;>refine' aj e ?_<;>exact o.hi _ (dc rfl))
  have Y:=Y;have eF:([h 0,h 1,h 2,h 3,h 4,h 5,h 6,h 7].map vi).flatten=vi (h 0)++vi (h 1)++vi (h 2)++vi (h 3)++vi (h 4)++vi (h 5)++vi (h 6)++vi (h 7):=by
   simp only[dr,tp,fy,rn,a_,aC]
  generalize hV:(List.map (λi=>V.bytes (vi i)) [h 0,h 1,h 2,h 3,h 4,h 5,h 6,h 7])=vb;have hvb:qk vb=some (([h 0,h 1,h 2,h 3,h 4,h 5,h 6,h 7].map vi).flatten):=by refine' c_ hV ?_;exact xh _
  have hvl:vb.length=8:=by refine' c_ hV ?_;rfl
  erw[Zb,LU us hvb (zwb hvl rfl) (dK Y rfl),ZX,Za,eP rfl,Za,Zak,Zas,Zc rfl,ZA,aw (C _ _ _ k) h6 rfl];have e5:toBytes [if rej=true then 1 else 0,xs.length]=[fb rej]++vr xs.length:=by
   erw[aj (qP (aM N (aE rfl)))]
   induction rej using tQ<;>rfl
  have m:∀d T,Ext H T->T d=none->jG .bytes [.ref d] (upd T d (.list [.int (if rej=true then 1 else 0),.int xs.length])) (λv B=>kv .Add (.bytes (([h 0,h 1,h 2,h 3,h 4,h 5,h 6,h 7].map vi).flatten)) v B λv B=>bO af w K aG n [.q7 2 (bw aN 3) [.bq 1 (.bin .Add bA (bD 776 [(bD 797 [(bw dB 1)])]))],.dm (.qG (bw aN 4) false) [.bq 1 (.bin .Add bA (.cst (.bytes [0])))] [.bq 1 (.bin .Add (.bin .Add bA (.cst (.bytes [1]))) (bD 776 [(bD 849 [(bw aN 4)])]))],dj (.bin .Add bA (bD 776 [(bw aN 5)]))] (upd (sr ([.ref A.gl]++[])) 1 v) B (dE Q) (cG X)):=λd T J P=>by
   erw[vc us rfl (λi hi=>?_) (aE rfl)]
   ·rcases bE.mp hi with rfl|hi
    ·split<;>decide
    ·erw[aj (aR.mp hi),<-⟨ax.mpr (dJ [] (zn 0,av) rt),bb.mpr (dJ [(av,zn 10)] (zs av,zn 256) rt N)⟩]
   ·erw[fH (by rw[tb];exact OJ Y rfl),aj e5,aj eF];generalize U7:upd T d (.list [.int (if rej=true then 1 else 0),.int xs.length])=H2;have a:Ext H H2:=by refine' c_ U7 ?_;exact Ext.fresh J (aI J P)
    generalize hb0:vi (h 0)++vi (h 1)++vi (h 2)++vi (h 3)++vi (h 4)++vi (h 5)++vi (h 6)++vi (h 7)++([fb rej]++vr xs.length)=b0;have eM:xk h xs sn rej cj=b0++(xs.map λx=>tx x.oct).flatten++y3 sn++tx cj:=by
     erw[c_ hb0];unfold xk;simp only[aC]
    rw[eM] at f;simp only[ah] at f;erw[Z_,Zf rfl rfl,aw (a _ _ k) h6 rfl];refine Fs (a _ _ M.g3) (lK U N rfl) (λu ρ B=>B=H2/\∃t2 J a,u=aT (t2.map (·.p))/\J++a=xs/\i8 H t2 a/\ρ 0=some (.ref A.gl)/\ρ 1=some (.bytes (b0++(J.map λx=>tx x.oct).flatten)))
     ⟨rfl,A.tr,[],xs,rfl,rfl,M.BL,rfl,by simp;rfl⟩ (λρ B=>gk λe0=>(AG · λt2 y1 D I G F E c5=>?_)) λv u ρ B ih=>gk λe0=>(AG · λt2 y1 D I G F E c5=>?_)
    ·subst e0;have:t2=[]:=by
      induction t2 using lcs with
      |nil=>rfl
      |cons=>injection I
     subst this;have:D=[]:=by
      induction D using lcs with
      |nil=>rfl
      |cons=>exact F.elim
     subst this;rw[a_] at G;subst G;have S:∀ρ:Loc,ρ 0=some (.ref A.gl)->ρ 1=some (.bytes (b0++(y1.map λx=>tx x.oct).flatten++y3 sn))->bO af w K aG n [dj (.bin .Add bA (bD 776 [(bw aN 5)]))] ρ B (dE Q) (cG X):=λρ r0 r1=>by
      erw[Zt,<-ZI r1 ?_,Zq,Za,Zo rfl,<-Zc r0 ?_,aw (a _ _ k) h6 rfl,Zb,jN R (dK Cu rfl) (lv y rfl),fH (by simp only[ah];exact dK f rfl),c_ eM,<-bH a q]
     erw[Zh,ZS,Zo rfl,<-Zc E ?_,aw (a _ _ k) h6 rfl,kY M.sn.qG];have LB:=o.so;have xd:=M.sn;generalize hsa:A.sa=sa at xd
     induction sn using tT with
     |none=>
      erw[Zp,Zg,Zv rfl,<-Zc c5 ?_,fH (by simp only[ah];exact Yi f),Ze,Zd,<-S _ E rfl]
     |some s=>
      induction sa using tT with
      |none=>exact xd.elim
      |some z=>
       erw[Zi,Zg,ZC,Zv rfl,<-Zc c5 ?_,fH (by simp only[ah];exact Yi f),Zq,Za,Zq,Za,Zo rfl,<-Zc E ?_,aw (a _ _ k) h6 rfl,aj hsa,Zb];have E_:=Sn.gK (LB s rfl);erw[<-Oz R (tY.ext a xd) (LB s rfl) (lv y rfl) λ_=>?_,Zb,jN R (dK E_ rfl) (lv y rfl)];have sl:(y3 (some s)).length=1+(tx s.oct).length:=by unfold y3;refine' aj ah ?_;rfl
       rw[sl] at f;erw[fH (by simp only[ah];exact gF [(zp (zp av (zp (zn 1) aW)) bT,zn 6000)] (zp (zs av) aW,zn 1000000) rt f),Ze,Zd,S _ E,aj (aC _ [1] _)];rfl
    ·induction t2 using lcs with
     |nil=>injection I
     |cons t t2=>
      induction D using lcs with
      |nil=>exact F.elim
      |cons x D=>
       injection I with I c6
       subst I;subst c6;replace e0:=e0.symm;subst e0;have hx:x∈xs:=by refine' c_ G ?_;simp
       have W:=o.xg x hx;have ho:=En.gK W.b.d W.i;have QQ:=Ay xs o.xg;rw[<-G] at QQ f;simp only[aX,dr,jo,fy,ah] at f;erw[Zg,<-ZI c5 ?_,aw (a _ _ F.1.p) (dc rfl) rfl,Zb,mw R (a _ _ F.1.r) W.i W.b.d (lv y rfl),Zb,jN R (dK ho rfl) (lv y rfl),fH (by simp only[ah];exact UX [(zp (zp (zp av (zp aW (zp bT f9))) tf) D5,zn 6000)] (zp (zp av aW) bT,zn 1000000) rt f),Ze,<-⟨a _ _ M.g3,ih _ _ ⟨rfl,t2,y1++[x],D,rfl,by erw[c_ G];rewrite[aC];rfl,F.2,E,?_⟩⟩];show some (V.bytes _)=_;erw[aj aX,aj jo];rewrite[aC];simp
  cases O:rej with
  |true=>
   rw[O] at m k;erw[aw (C _ _ _ k) h6 rfl,Zb,dV (C _ _ _ M.g3) (lK U N rfl),aj U,Zb,(d P),Zb,<-m d _ (C _) P]
  |false=>
   rw[O] at m k;erw[aw (C _ _ _ k) h6 rfl,Zb,dV (C _ _ _ M.g3) (lK U N rfl),aj U,Zb,(d P),Zb,<-m d _ (C _) P]
end
section
variable{G:Hp}
theorem NF(f:En->V)(h:H a=some (.list (aT (ts.map (·.p)))))(l:xs.length<=1000)(m:i8 H ts xs)(o:∀(t:Tr)(x:En),x∈xs->Pr H t.p t.e t.r x->∀G:V->Hp->Prop,G (f x) H->dk af w K aG n elt (upd ρ 1000 (.ref t.p)) H G Du)(q:∀c,H c=none->Q (.ref c) (upd H c (.list (xs.map f)))):sU af w K n elt none ρ Q (.ref a) H:=by
 have hl:(aT (ts.map (·.p))).length<=1000:=by rewrite[bG,aq];refine' aj m.length ?_;exact l
 refine sS h hl (λd j k=>k=H/\∃t2 i b,d=aT (t2.map (·.p))/\i++b=xs/\j=i.map f/\i8 H t2 b) ⟨rfl,ts,[],xs,rfl,rfl,rfl,m⟩ (λj k=>gk λe=>(mR · λt2 i b e1 e2 e3 e4=>?_)) λv d j k=>gk λe=>(mR · λt2 i b e1 e2 e3 e4 G g=>?_)
 ·replace e:=e.symm;subst e
  induction t2 using lcs with
  |cons=>injection e1
  |nil=>
   induction b using lcs with
   |cons=>exact e4.elim
   |nil=>
    rw[a_] at e2;replace e2:=e2.symm;subst e2;subst e3;exact q
 ·replace e:=e.symm;subst e
  induction t2 using lcs with
  |nil=>injection e1
  |cons t t2=>
   induction b using lcs with
   |nil=>exact e4.elim
   |cons x b=>
    injection e1 with e1 e5
    subst e1;subst e5;exact o t x (by erw[c_ e2];simp) e4.1 G (g _ _ h ⟨rfl,t2,i++[x],b,rfl,by erw[c_ e2];rewrite[aC];rfl,by erw[aj e3,aj aX];rfl,e4.2⟩)
theorem OM(R:Rd af w K)(M:Mb H A h xs sn rej cj)(u:xs.length<=10)(D:∀s,sn=some s->w9 s.ids)(y:aB 0 n=true)(q:Q (CA h xs sn rej cj) H):aY af w K n 859 [.ref A.gl] H Q X:=by
 erw[R.um.to rfl y,(n y)];have e:=M.g;have h6:(A.gv rej cj).length<=100000:=dc rfl;have h8:(hl h).length<=100000:=dc rfl;erw[Zg,Zf rfl rfl,aw e h6 rfl,Z1 rfl,Zh,ZS,Zf rfl rfl,aw e h6 rfl,kY M.sn.qG];have f:∀ρ:Loc,ρ 0=some (.ref A.gl)->ρ 1=some (.ref A.nu)->ρ 2=some (FW sn)->bO af w K aG n [.bq 4 (.call .tuple [(.comp (.call .tuple [(bw (.loc 1000) 1)]) (bw aN 3) none)]),dj (.tup [(bw bA 0),(bw bA 1),(bw bA 2),(bw bA 3),(bw bA 4),(bw bA 5),fB,(bw bA 6),dB,(bw aN 2),(bw bA 7),(bw aN 5)])] ρ H (dE Q) (cG X):=λρ k a C=>by
  erw[Zg,ZL,Za,ZJ,Zo rfl,<-Zc k ?_,aw e h6 rfl,<-NF (λx=>.tup x.vs) M.g3 (dK u rfl) M.BL (λt x I v J F=>?_) λc E=>?_]
  ·have h4:x.vs.length<=1000:=dc rfl;have m:=v.p;have G:=v.r;erw[ZL,Za,Zf rfl rfl,aw m (dc rfl) rfl,Zb,gf G (by assumption),<-F]
  ·have o:∀L,Ext H (upd H c L):=λL=>Ext.fresh Ext.refl E;have b:=λL=>o L _ _ M.nu;have d:=λL=>o L _ _ e;erw[Zb,gf us (by rw[aq];exact dK u rfl),Zt,iX rfl,Za,Zo rfl,<-Zc a ?_,aw (b _) h8 rfl,Za,Zo rfl,<-Zc a ?_,aw (b _) h8 rfl,Za,Zo rfl,<-Zc a ?_,aw (b _) h8 rfl,Za,Zo rfl,<-Zc a ?_,aw (b _) h8 rfl,Za,Zo rfl,<-Zc a ?_,aw (b _) h8 rfl,Za,Zo rfl,<-Zc a ?_,aw (b _) h8 rfl,Zr rfl,Za,Zo rfl,<-Zc a ?_,aw (b _) h8 rfl,<-Zr C ?_,Za,Zo rfl,<-Zc k ?_,aw (d _) h6 rfl,Za,Zo rfl,<-Zc a ?_,aw (b _) h8 rfl,Za,Zo rfl,<-Zc k ?_,aw (d _) h6 rfl,Zb,<-bH (o _) q]
 have j:=M.sn;generalize l:A.sa=sa at j
 induction sn using tT with
 |none=>
  erw[Zi,Ze,Zd,<-f _ rfl rfl rfl]
 |some s=>
  induction sa using tT with
  |none=>exact j.elim
  |some z=>
   erw[Zp,Zg,Zf rfl rfl,aw e h6 rfl];have h5:(s.vs z.s2).length<=100000:=dc rfl;have i:=j.sl;have V:=j.s2;have B:=(D s rfl).len;have P:(iv s.ids).length<=1000:=by unfold iv;rw[aq];exact dK B rfl
   erw[aj l];unfold NM;erw[Zg,iX rfl,Za,Zf rfl rfl,aw i h5 rfl,Za,Zf rfl rfl,aw i h5 rfl,Za,iX rfl,Za,ZL,Za,Zf rfl rfl,aw i h5 rfl,Zb,gf V (by assumption),Za,iX rfl,Zb,Za,iX rfl,Zb,Za,iX rfl,Zb,Za,Zf rfl rfl,aw i h5 rfl,Zb,Za,Zf rfl rfl,aw i h5 rfl,Zb,Ze,Zd,<-f _ rfl rfl rfl]
theorem pL{cond:V->Hp->(Bool->Hp->Prop)->Prop}(I:List V->List V->Hp->Prop):∀(vs a:List V) {H:Hp},I vs a H->(∀a H,I [] a H->F a H)->
  (∀v r a H,I (v::r) a H->∀G:Bool->Hp->Prop,(∀d,qV d->I r a d->G false d)->(∀d,(∀g:V->Hp->Prop,(∀x f,qV f->I r (a++[x]) f->g x f)->elt v d g)->G true d)->cond v H G)->j8 elt cond qV vs a H F
 |[],a,H,h,h0,_=>h0 _ _ h
 |v::vs,a,H,h,h0,hs=>by
  refine hs v vs a H h (λb d=>if b=true then elt v d λx f=>qV f/\j8 elt cond qV vs (a++[x]) f F else qV d/\j8 elt cond qV vs a d F) (λd c i=>?_) λd e=>?_
  ·exact Zi ⟨c,pL I vs _ i h0 hs⟩
  ·exact Zp (e _ λx f c i=>⟨c,pL I vs _ i h0 hs⟩)
theorem yz(R:Rd af w K)(M:Mb H A h xs sn rej cj)(l:xs.length<=10)(m:aB 0 n=true)(q:(∀x∈xs,jI x)->Q (.bool true) H)(u:¬(∀x∈xs,jI x)->Q (.bool false) H):aY af w K n 864 [.ref A.gl] H Q X:=by
 erw[R.AL.to rfl m,(n m)];have C:=M.g;have h6:(A.gv rej cj).length<=100000:=dc rfl;have I:(aT (A.tr.map (·.p))).length=xs.length:=by rewrite[bG,aq];refine' aj M.BL.length ?_;rfl
 erw[Zt,Zai rfl,ZN,Za,ZJ,Zf rfl rfl,aw C h6 rfl];unfold sU;dsimp only;erw[aj M.g3,<-⟨lK I l rfl,pL (λb j k=>k=H/\∃t2 f a,b=aT (t2.map (·.p))/\f++a=xs/\i8 H t2 a/\j.length<=f.length/\((∀x∈f,jI x) ↔ j=[])) _ _ ⟨rfl,A.tr,[],xs,rfl,rfl,M.BL,qt,⟨λ_=>rfl,λ_ _ h=>nomatch h⟩⟩ (λj k=>gk λe=>(AG · λt2 f a e1 e2 e3 e4 e5=>?_)) λv b j k=>gk λe=>(AG · λt2 f a e1 e2 e3 e4 e5 G F E=>?_)⟩]
 ·replace e:=e.symm;subst e;have:t2=[]:=by
   induction t2 using lcs with
   |nil=>rfl
   |cons=>injection e1
  subst this;have:a=[]:=by
   induction a using lcs with
   |nil=>rfl
   |cons=>exact e3.elim
  subst this;rw[a_] at e2;replace e2:=e2.symm;subst e2;erw[(c o),Zb,dV us (dK (aH e4 l) rfl),<-cq (λh0=>?_) (λh0=>?_)]
  ·erw[<-bH (Ext.fresh Ext.refl o) (q (e5.mpr ?_)),<-Fn.mp (Tt h0)]
  ·erw[<-bH (Ext.fresh Ext.refl o) (u λz=>h0 ?_),aj (e5.mp z)];rfl
 ·subst e
  induction t2 using lcs with
  |nil=>injection e1
  |cons t t2=>
   induction a using lcs with
   |nil=>exact e3.elim
   |cons x a=>
    injection e1 with e1 e6
    subst e1;subst e6;have i:=e3.1.p;have s:=e3.1.r;have h4:x.vs.length<=100000:=dc rfl;have d:jI x->G false k:=λB=>F _ M.g3 ⟨rfl,t2,f++[x],a,rfl,by erw[c_ e2];rewrite[aC];rfl,e3.2,by rewrite[ah,aV];exact UZ e4,by
     rw[<-e5];refine⟨λz y hy=>z y (JK _ hy),λz y hy=>?_⟩;rcases cC.mp hy with hy|hy
     ·exact z y hy
     ·erw[aj (aR.mp hy)];exact B⟩
    erw[ZR,Zn,Zy rfl,Zo rfl,Zf rfl rfl,aw i (dc rfl) rfl,aw s h4 rfl,<-v7 (λh0=>?_) (λh0=>?_)]
    ·erw[Z0,<-d (.inl h0)]
    ·erw[Zp,Zn,Zy rfl,Zo rfl,Zf rfl rfl,aw i (dc rfl) rfl,aw s h4 rfl,<-v7 (λh1=>?_) (λh1=>?_)]
     ·erw[Z0,<-d (.inr h1)]
     ·erw[Zan,ZD,E _,(J D),Zc rfl,<-D _ _ M.g3 ⟨rfl,t2,f++[x],a,rfl,by erw[c_ e2];rewrite[aC];rfl,e3.2,by rewrite[ah,ah,aV,aV];exact Th e4,⟨λz=>absurd (z x (by simp)) (λz=>z.elim h0 h1),λz=>?_⟩⟩];have:=congrArg cF z;rw[ah,aV] at this;exact absurd this (by exact YG)
end
section
variable{G:Hp}
theorem A2.OC(h:A2 H H' me v s):EK H' v s:=by
 induction h using A2.casesOn with
 |none=>exact EK.none
 |some _ k _=>exact EK.some k
theorem qq(R:Rd af w K)(o:uP h xs sn cj)(b:aB 8 n=true)(q:(∀x∈xs,jI x)->Q (CA h xs sn rej cj) H)(i:¬(∀x∈xs,jI x)->Q .none H):aY af w K n 871 [.bytes (xk h xs sn rej cj)] H Q X:=by
 erw[R.td.to rfl b,(n b)];have m:=AJ (rej:=rej) o;erw[ZV,Zt,Zm,Zz rfl,<-n_ R o.big o.Iq o.zv (λs c=>Sn.gK (o.so s c)) (dK m rfl) (lv b rfl) (λd r l J j v x f e O E g k=>?_) (λd=>⟨rfl,λp=>bH Ext.refl (i d)⟩)];have a:=e;unfold dD at a;erw[<-fj a ⟨rfl,?_⟩,Zb,bt a rfl,zS R e O E g.OC o.len (λs c=>(o.so s c).ids) (lv b rfl),<-bH x (q d)]
theorem js(h:∀v∈vs,plain k v=true):plain (k+1) (.tup vs)=true:=cJ.mpr h
theorem LW(k:Nat)(l:List Int):∀v∈iv l,plain (k+1) v=true:=λv h=>by
 erw[ay (cK.mp h),(i _ e)];subst e;rfl
theorem aK{P:α->Prop}(h:P x)(k:∀y∈l,P y):∀y∈x::l,P y:=λy hy=>by
 rcases bE.mp hy with e|hy
 ·erw[aj e,<-h]
 ·exact k y hy
theorem fK{P:α->Prop}:∀y∈([]:List α),P y:=λ_ h=>nomatch h
theorem KP(a:Option Sn):plain 8 (FW a)=true:=by
 induction a using tT with
 |none=>rfl
 |some s=>exact js (aK rfl (aK rfl (aK (js (aK (js (LW 4 _)) (aK rfl (aK rfl (aK rfl (aK rfl fK)))))) (aK rfl fK))))
theorem Jd(h:Nat->Int)(xs:List En)(s:Option Sn)(rej:Bool)(c:List UInt8):∃vs,CA h xs s rej c=.tup vs/\plain 9 (.tup vs)=true:=by
 erw[<-⟨_,rfl,js (aK rfl (aK rfl (aK rfl (aK rfl (aK rfl (aK rfl (aK (js λv a=>?_) (aK rfl (aK (KP s) (aK rfl (aK rfl (aK rfl fK))))))))))))⟩,ay (cK.mp a),(x _ i)];subst i;rfl
theorem tg(R:Rd af w K)(M:Mb H A h xs sn rej cj)(o:uP h xs sn cj)(a:aB 9 n=true)(q:Q (.bool true) H):aY af w K n 878 [.ref A.gl] H Q X:=by
 erw[R.Hy.to rfl a,(n a)];have e:=M.g;have c:=M.m;have h6:(A.gv rej cj).length<=100000:=dc rfl;have i:=λs j=>(o.so s j).ids;erw[ay (Jd h xs sn rej cj),(v f p)];have b:=c;unfold dD at b;erw[Zg,Zz rfl,OM R M o.len i (lv a rfl),Zg,Zz rfl,rN R M o (lv a rfl),Zh,ZT,Zn,Zy rfl,Zm,Zf rfl rfl,aw e h6 rfl,bC b rfl,Zb,bt b rfl,zS R c M.me M.BL.OP M.sn.OC o.len i (lv a rfl),aj f,Ib p,ZM,Zn,Zy rfl,Zq,Za,Zf rfl rfl,aw e h6 rfl,Zb,<-fS R c M.me M.BL.OP M.sn.OC o.big (lv a rfl) (λ_=>?_) (λz=>absurd o.Iq z),pO,ZM,ZD,Zi,Ze,Zd,Zh,Zaa rfl,<-yz R M o.len (lv a rfl) (λd=>?_) (λd=>?_)]
 ·erw[Zx,Zp,Zt,Zai rfl,Zz rfl,<-qq R o (lv a rfl) (λ_=>?_) (λz=>absurd d z),aj f,Kz p,<-bH Ext.refl q]
 ·erw[Zx,Zi,Ze,Zd,Zt,Zad,Zz rfl,<-qq R o (lv a rfl) (λz=>absurd z d) (λ_=>?_),kY rfl,<-bH Ext.refl q]
noncomputable def hM(h:Nat->Int)(f:Nat)(v:Int):Nat->Int:=λj=>if j=f then v else h j
theorem Nm(R:Rd af w K){A:CK}(e:f<=7)(d:H A.gl=some (.list (A.gv rej cj)))(a:H A.m=some (dD h' me v' rQ ctx'))(b:H A.nu=some (.list (hl h)))(g:A.gl≠A.nu)(c:aB 0 n=true)(q:Q .none (upd (upd H A.nu (.list (hl (hM h f v)))) A.m (dD (hM h' f v) me v' rQ ctx'))):aY af w K n 885 [.ref A.gl,.int (f:Int),.int v] H Q X:=by
 erw[R.QJ.to rfl c,(n c)];have h6:(A.gv rej cj).length<=100000:=dc rfl;have h8:(hl h).length<=100000:=dc rfl;have G:=λy=>ae (mo:=y) g d;have nm:=fQ a b (λz=>by injection z);unfold dD at a;erw[ZK,Zc rfl,Zf rfl rfl,aw d h6 rfl,Zc rfl,i_ b h8 ir (by exact bb.mpr (dJ [(av,zn 7)] (zs av,zn 8) rt e))];rw[aL];revert q;refine Vx (gh e) ?_ ?_ ?_ ?_ ?_ ?_ ?_ ?_
 ·erw[(q),Zh,Zj rfl rfl,<-cq (λ_=>?_) (λz=>absurd rfl z),Zp,Zu,Zc rfl,Zf rfl rfl,aw (G _) h6 rfl,bQ (ae nm a) rfl rfl,Ze,Zd,Ze,<-cR Ext.refl q]
 ·erw[(q),Zh,Zj rfl rfl,d8 rfl,Zi,Zh,Zj rfl rfl,<-cq (λ_=>?_) (λz=>absurd rfl z),Zp,Zu,Zc rfl,Zf rfl rfl,aw (G _) h6 rfl,bQ (ae nm a) rfl rfl,Ze,Zd,Ze,Zd,Ze,<-cR Ext.refl q]
 ·erw[(q),Zh,Zj rfl rfl,d8 rfl,Zi,Zh,Zj rfl rfl,d8 rfl,Zi,Zh,Zj rfl rfl,<-cq (λ_=>?_) (λz=>absurd rfl z),Zp,Zu,Zc rfl,Zf rfl rfl,aw (G _) h6 rfl,bQ (ae nm a) rfl rfl,Ze,Zd,Ze,Zd,Ze,Zd,Ze,<-cR Ext.refl q]
 ·erw[(q),Zh,Zj rfl rfl,d8 rfl,Zi,Zh,Zj rfl rfl,d8 rfl,Zi,Zh,Zj rfl rfl,d8 rfl,Zi,Zh,Zj rfl rfl,<-cq (λ_=>?_) (λz=>absurd rfl z),Zp,Zu,Zc rfl,Zf rfl rfl,aw (G _) h6 rfl,bQ (ae nm a) rfl rfl,Ze,Zd,Ze,Zd,Ze,Zd,Ze,Zd,Ze,<-cR Ext.refl q]
 ·erw[(q),Zh,Zj rfl rfl,d8 rfl,Zi,Zh,Zj rfl rfl,d8 rfl,Zi,Zh,Zj rfl rfl,d8 rfl,Zi,Zh,Zj rfl rfl,d8 rfl,Zi,Zh,Zj rfl rfl,<-cq (λ_=>?_) (λz=>absurd rfl z),Zp,Zu,Zc rfl,Zf rfl rfl,aw (G _) h6 rfl,bQ (ae nm a) rfl rfl,Ze,Zd,Ze,Zd,Ze,Zd,Ze,Zd,Ze,Zd,Ze,<-cR Ext.refl q]
 ·erw[(q),Zh,Zj rfl rfl,d8 rfl,Zi,Zh,Zj rfl rfl,d8 rfl,Zi,Zh,Zj rfl rfl,d8 rfl,Zi,Zh,Zj rfl rfl,d8 rfl,Zi,Zh,Zj rfl rfl,d8 rfl,Zi,Zh,Zj rfl rfl,<-cq (λ_=>?_) (λz=>absurd rfl z),Zp,Zu,Zc rfl,Zf rfl rfl,aw (G _) h6 rfl,bQ (ae nm a) rfl rfl,Ze,Zd,Ze,Zd,Ze,Zd,Ze,Zd,Ze,Zd,Ze,Zd,Ze,<-cR Ext.refl q]
 ·erw[(q),Zh,Zj rfl rfl,d8 rfl,Zi,Zh,Zj rfl rfl,d8 rfl,Zi,Zh,Zj rfl rfl,d8 rfl,Zi,Zh,Zj rfl rfl,d8 rfl,Zi,Zh,Zj rfl rfl,d8 rfl,Zi,Zh,Zj rfl rfl,d8 rfl,Zi,Zh,Zj rfl rfl,<-cq (λ_=>?_) (λz=>absurd rfl z),Zp,Zu,Zc rfl,Zf rfl rfl,aw (G _) h6 rfl,bQ (ae nm a) rfl rfl,Ze,Zd,Ze,Zd,Ze,Zd,Ze,Zd,Ze,Zd,Ze,Zd,Ze,Zd,Ze,<-cR Ext.refl q]
 ·erw[(q),Zh,Zj rfl rfl,d8 rfl,Zi,Zh,Zj rfl rfl,d8 rfl,Zi,Zh,Zj rfl rfl,d8 rfl,Zi,Zh,Zj rfl rfl,d8 rfl,Zi,Zh,Zj rfl rfl,d8 rfl,Zi,Zh,Zj rfl rfl,d8 rfl,Zi,Zh,Zj rfl rfl,d8 rfl,Zi,Zu,Zc rfl,Zf rfl rfl,aw (G _) h6 rfl,bQ (ae nm a) rfl rfl,Ze,Zd,Ze,Zd,Ze,Zd,Ze,Zd,Ze,Zd,Ze,Zd,Ze,Zd,Ze,<-cR Ext.refl q]
end
section
variable{G:Hp}
noncomputable def CK.AV(A:CK)(z:Option xn):CK:={A with sa:=z}
theorem Nh(R:Rd af w K){A:CK}{sl s2:Addr}(V:H A.gl=some (.list (A.gv rej cj)))(U:H A.m=some (dD h A.me (yN A.sa) rej cj))(hs:H sl=some (.list (s.vs s2)))(Ee:H s2=some (.list (iv s.ids)))(I:w9 s.ids)(n1:sl≠A.gl)(n2:s2≠A.gl)(B:aB 2 n=true)(q:∀r a C,(∀b mo,b≠A.gl->b≠A.m->H b=some mo->r b=some mo)->YV H a C->r A.gl=some (.list ((A.AV (some ⟨sl,s2,a,C⟩)).gv rej cj))->r A.m=some (dD h A.me (.ref a) rej cj)->Bf r a C s->Q .none r):aY af w K n 892 [.ref A.gl,.ref sl] H Q X:=by
 erw[R.Iy.to rfl B,(n B)];have h6:(A.gv rej cj).length<=100000:=dc rfl;have h5:(s.vs s2).length<=100000:=dc rfl;have nm:=fQ U V (λz=>by injection z);erw[ZK,Zc rfl,Zc rfl,ZA,i_ V h6 (dc rfl) (dc rfl)];generalize f:upd H A.gl _=H1;have g1:H1 A.gl=some (.list [.ref A.m,.ref A.nu,.bool rej,.ref A.g3,.ref sl,.bytes cj]):=by refine' c_ f ?_;exact us
 have y:∀b mo,b≠A.gl->H b=some mo->H1 b=some mo:=λb mo N g=>by refine' c_ f ?_;exact ae N g
 have f1:∀b,H1 b=none->H b=none:=λb g=>by
  rw[<-f] at g;exact(bo g).1
 have s1:=y _ _ n1 hs;have E:=y _ _ n2 Ee;have m1:=y _ _ nm U;erw[Zu,ZQ,Za,Zf rfl rfl,aw s1 h5 rfl,Za,Zf rfl rfl,aw s1 h5 rfl,Za,ZQ,Za,Zf rfl rfl,aw s1 h5 rfl,Za,eP rfl,Zb,(l hl)];have S:∀L,Ext H1 (upd H1 l L):=λL=>Ext.fresh Ext.refl hl;erw[Za,eP rfl,Zb,(o T)];have P:∀L j,Ext H1 (upd (upd H1 l L) o j):=λL j=>Ext.fresh (S L) (aI (S _) T);have J:=(bo T).2;erw[Za,eP rfl,Zb,(m e)];have x:∀L j p,Ext H1 (upd (upd (upd H1 l L) o j) m p):=λL j p=>Ext.fresh (P L j) (aI (P _ _) e);have F:=(bo e).2;have G:=(bo (bo e).1).2;erw[Za,Zf rfl rfl,aw (x _ _ _ _ _ s1) h5 rfl,Zb,(c hc),<-pS R I hc (x _ _ _ _ _ E) (ae (aJ G) (ae (aJ J) us)) (ae (aJ F) us) us (lv B rfl) λY C e4 x4 k c4=>⟨rfl,?_⟩];subst e4;have u:=(x _ _ _).trans x4;erw[Za,Zf rfl rfl,aw (u _ _ s1) h5 rfl,Zb,(a O),<-pQ R (lv B rfl) ⟨rfl,?_⟩];have D:Ext H1 (upd Y a (.inst 533 [(1,.int s.i),(0,.int s.t),(11,.ref C.c),(3,.bytes s.d)])):=Ext.fresh u (aI u O);have m6:=D _ _ m1;have W:=D _ _ g1;unfold dD at m6;erw[Zf rfl rfl,aw W (dc rfl) rfl,bQ m6 rfl rfl,Ze];have up1:∀{b},H1 b=none->H b=none:=λh=>f1 _ h;have sh:Bf (upd Y a (.inst 533 [(1,.int s.i),(0,.int s.t),(11,.ref C.c),(3,.bytes s.d)])) a C s:=⟨us,c4.ext (Ext.fresh Ext.refl O)⟩;refine cR Ext.refl (q _ a C (λb mo N M g=>ae M (D _ _ (y b mo N g))) ⟨up1 (aI u O),up1 (aI (x _ _ _) k.c),up1 (aI (x _ _ _) k.v),up1 (aI (x _ _ _) k.l),up1 (aI (x _ _ _) k.o),up1 (aI (x _ _ _) k.n)⟩ (ae (aJ nm) W) us (sh.set m6))
structure KbA where
 kl:Addr
 cm:Addr
 kr:Addr
structure Kb(H:Hp)(A:KbA)(z:Cm):Prop where
 k:H A.kl=some (.list [.ref A.cm,.ref A.kr])
 c:H A.cm=some z.o
 r:H A.kr=some (.list z.vs)
theorem Kb.ext{c:Cm}(e:Ext H H')(x:Kb H A c):Kb H' A c:=⟨e _ _ x.k,e _ _ x.c,e _ _ x.r⟩
structure Cm.Good(c:Cm):Prop where
 b:c.An
 i:c.In
theorem yF(R:Rd af w K){c:Cm}(h:H r=some (.list c.vs))(g:c.Good)(a:aB 2 n=true)(q:Q (.bytes c.oct) H):aY af w K n 906 [.ref r] H Q X:=by
 erw[R.BO.to rfl a,(n a)];have h6:c.vs.length<=100000:=dc rfl;have p:rE c.k:=⟨g.i.k0,by have:=g.i.k6;exact SU this⟩;have d:=eE p;have v:=eE g.i.c;have e:=eE g.i.n;have l:=g.b.key;have j:=g.b.val;have x:=fN 9 _ (aM l (dc rfl));have u:=fN 9 _ (aM j (dc rfl));have t4:(tx c.key).length<=210:=by unfold tx;refine' aj ah ?_;exact N6 x l rfl
 have t5:(tx c.val).length<=210:=by unfold tx;refine' aj ah ?_;exact N6 u j rfl
 erw[Zg,ZC,ZC,ZC,ZC,Zq,Za,Zf rfl rfl,aw h h6 rfl,Zb,jO R p (lv a rfl),Zq,Za,Zf rfl rfl,aw h h6 rfl,Zb,jO R g.i.c (lv a rfl),fH (N6 d v rfl),Zq,Za,Zf rfl rfl,aw h h6 rfl,Zb,jO R g.i.n (lv a rfl),fH (aj ah (VG d v e)),Zq,Za,Zf rfl rfl,aw h h6 rfl,Zb,jN R (dK l rfl) (lv a rfl),fH (by simp only[ah];exact yj [(av,zn 10),(aW,zn 10),(bT,zn 10),(f9,zn 210)] (zp (zp (zp av aW) bT) f9,zn 1000000) rt d v e t4),Zq,Za,Zf rfl rfl,aw h h6 rfl,Zb,jN R (dK j rfl) (lv a rfl),fH (by simp only[ah];exact QK [(av,zn 10),(aW,zn 10),(bT,zn 10),(f9,zn 210),(tf,zn 210)] (zp (zp (zp (zp av aW) bT) f9) tf,zn 1000000) rt d v e t4 t5),Zh,ZS,Zf rfl rfl,aw h h6 rfl];have q:=q;unfold Cm.oct at q;have f:=g.b.ex;have o:=h;unfold Cm.vs at o;generalize s:c.ex=ex at q f o
 induction ex using tT with
 |none=>
  erw[kY rfl,Zp,Zt,Zs rfl rfl,fH (by simp only[ah];exact Wf d v e t4 t5),<-bH Ext.refl q]
 |some b=>
  have m:=f b rfl;have t:=fN 9 _ (aM m (dc rfl));have t6:(tx b).length<=210:=by unfold tx;refine' aj ah ?_;exact N6 t m rfl
  erw[kY rfl,Zi,Ze,Zd,Zt,ZC,Zs rfl rfl,fH (by simp only[ah];exact Wf d v e t4 t5),Zq,Za,Zf rfl rfl,aw o (dc rfl) rfl,Zb,jN R (dK m rfl) (lv a rfl),fH (by simp only[ah];exact UX [(av,zn 10),(aW,zn 10),(bT,zn 10),(f9,zn 210),(tf,zn 210),(D5,zn 210)] (zp (zs (zp (zp (zp (zp av aW) bT) f9) tf)) D5,zn 1000000) rt d v e t4 t5 t6),aj (aC _ [1] _),<-bH Ext.refl q]
theorem DY(c:Cm):plain 9 (.tup c.vs)=true:=by
 refine js (aK rfl (aK rfl (aK rfl (aK rfl (aK rfl (aK ?_ fK))))));cases c.ex<;>rfl
theorem D3(R:Rd af w K)(M:Kb H A c)(g:c.Good)(a:aB 6 n=true)(q:Q (.bool true) H):aY af w K n 913 [.ref A.kl] H Q X:=by
 erw[R.Ht.to rfl a,(n a)];have e:=M.k;have f:=M.c;have hr:=M.r;have h2:([V.ref A.cm,.ref A.kr]).length<=100000:=dc rfl;have h6:c.vs.length<=1000:=dc rfl;have h:=f;unfold Cm.o at h;erw[Zg,Zq,Za,Zf rfl rfl,aw e h2 rfl,Zb,yF R hr g (lv a rfl),Zh,ZT,Zn,Zy rfl,Zm,Zf rfl rfl,aw e h2 rfl,bC h rfl,Zb,bt h rfl,<-kO R f g.b (lv a rfl) (λ_=>?_) (λz=>absurd g.i z),pO,ZM,Zn,ZH,Zm,Zf rfl rfl,aw e h2 rfl,bC h rfl,Zb,bt h rfl,zX R f (lv a rfl),ZL,Za,Zf rfl rfl,aw e h2 rfl,Zb,gf hr (by assumption),Ib (DY c),ZM,ZD,Zi,Ze,Zd,Zt,Zac,Zm,Zz rfl,nY R g.b g.i (lv a rfl),(d j)];have Y:(upd H d c.o) d=some (.inst 627 [(2,.int c.k),(21,.int c.c),(22,.int c.n),(23,.bytes c.key),(24,.bytes c.val),(25,So c.ex)]):=us;have l:Ext H (upd H d c.o):=Ext.fresh Ext.refl j;erw[<-fj Y ⟨rfl,?_⟩,Zb,bt Y rfl,zX R us (lv a rfl),ZL,Za,Zf rfl rfl,aw (l _ _ e) h2 rfl,Zb,gf (ae (ne_sn hr j) hr) (by assumption),Kz (DY c),<-bH l q]
theorem sR(R:Rd af w K){c:Cm}(h:H a=some c.o)(b:c.An)(r:¬c.In)(d:aB 5 n=true)(q:Q (.bool true) H):aY af w K n 920 [.ref a] H Q X:=by
 erw[R.nV.to rfl d,(n d)];have e:=h;unfold Cm.o at e;erw[ZV,Zk,Zm,Zc rfl,bC e rfl,Zb,bt e rfl,<-kO R h b (lv d rfl) (λz=>absurd z r) (λ_=>⟨rfl,λ_=>bH Ext.refl q⟩)]
end
structure Gh where
 R:Addr->Nat
 mt:Addr->Addr
 en:Addr->En
structure Cells(H:Hp)(g:Gh):Prop where
 ent:∀e,g.R e=1\/g.R e=4->H e=some (g.en e).o/\H (g.mt e)=some (.list (g.en e).vs)/\g.R (g.mt e)=g.R e+1/\g.mt (g.mt e)=e/\(g.en e).Good
 pr:∀p,g.R p=3->∃e,g.R e=1/\H p=some (.list [.ref e,.ref (g.mt e)])
theorem bX{R:Addr->Nat}(h:R a=i)(k:R b=j)(n:i≠j):a≠b:=λe=>by
 rw[e,k] at h;exact n h.symm
theorem Cells.pair(C:Cells H g)(h:g.R p=3):∃e,g.R e=1/\Pr H p e (g.mt e) (g.en e)/\(g.en e).Good:=by
 erw[ay (C.pr p h),(e f i),iu (C.ent e (.inl f)),(a b c d k),<-⟨e,f,⟨i,a,b⟩,k⟩]
structure bJ(s:Nat->Prop)(H:Hp)(g:Gh)(H':Hp)(g':Gh):Prop where
 r:∀a,s (g.R a)->g'.R a=g.R a
 m:∀a,s (g.R a)->g'.mt a=g.mt a
 h:∀a mo,s (g.R a)->H a=some mo->H' a=some mo
theorem bJ.sub(k:bJ s H g H' g')(i:∀n,t n->s n):bJ t H g H' g':=⟨λa h=>k.r a (i _ h),λa h=>k.m a (i _ h),λa b h=>k.h a b (i _ h)⟩
theorem bJ.ext(e:Ext H H'):bJ s H g H' g:=⟨λ_ _=>rfl,λ_ _=>rfl,λa m _ h=>e a m h⟩
theorem bJ.upd{s:Nat->Prop}{H:Hp}{g:Gh}{a:Addr}{y:MO}(n:¬s (g.R a)):bJ s H g (upd H a y) g:=⟨λ_ _=>rfl,λ_ _=>rfl,λb m h k=>ae (λe=>n (e▸h)) k⟩
theorem bJ.trans{H:Hp}(a:bJ s H g H' g')(b:bJ s H' g' cI g''):bJ s H g cI g'':=
 ⟨λx h=>(b.r x (aj (a.r x h) h)).trans (a.r x h),λx h=>(b.m x (aj (a.r x h) h)).trans (a.m x h),λx c h k=>b.h x c (aj (a.r x h) h) (a.h x c h k)⟩
structure Claim(H:Hp)(g:Gh):Prop where
 c:∀a,g.R a≠0->H a≠none
theorem Claim.fresh(C:Claim H g)(h:H a=none):g.R a=0:=by
 by_cases q:g.R a=0
 ·exact q
 ·exact absurd h (C.c a q)
theorem Claim.ext(C:Claim H g)(e:Ext H H'):Claim H' g:=⟨λa h q=>C.c a h (aI e q)⟩
theorem Claim.upd{H:Hp}{g:Gh}(C:Claim H g){a:Addr}{y:MO}:Claim (upd H a y) g:=⟨λb h q=>C.c b h (bo q).1⟩
structure ll(R:Addr->Nat)(b:Nat)(z:xn):Prop where
 sl:R z.sl=b+5
 s2:R z.s2=b+6
 a:R z.a=b+7
 c:R z.A.c=b+8
 v:R z.A.v=b+9
 l:R z.A.l=b+10
 o:R z.A.o=b+10
 n:R z.A.n=b+10
structure tR(H:Hp)(g:Gh)(t:Tr):Prop where
 p:g.R t.p=3
 h:H t.p=some (.list [.ref t.e,.ref t.r])
 e:g.R t.e=1
 r:t.r=g.mt t.e
structure i5(H:Hp)(g:Gh)(b:Nat)(A:CK)(h:Nat->Int)(sn:Option Sn)(rej:Bool)(cj:List UInt8):Prop where
 hg:H A.gl=some (.list (A.gv rej cj))
 hm:H A.m=some (dD h A.me (yN A.sa) rej cj)
 hu:H A.nu=some (.list (hl h))
 h3:H A.g3=some (.list (aT (A.tr.map (·.p))))
 he:H A.me=some (.list (aT (A.tr.map (·.e))))
 ht:∀t∈A.tr,tR H g t
 hs:tY H A.sa sn
 rg:g.R A.gl=b
 rm:g.R A.m=b+1
 Fc:g.R A.nu=b+2
 Jx:g.R A.g3=b+3
 Ft:g.R A.me=b+4
 rs:∀z,A.sa=some z->ll g.R b z
def oz(b n:Nat):Prop:=n=1\/n=3\/(b<=n/\n<=b+10)
theorem tY.keep(k:bJ s H g H' g')(i:∀n,b+5<=n->n<=b+10->s n):∀{z:Option xn} {d:Option Sn},(∀y,z=some y->ll g.R b y)->tY H z d->tY H' z d
 |none,none,_,_=>trivial
 |some z,some d,r,h=>by
  rcases r z rfl with⟨r1,r2,r3,r4,r5,r6,r7,r8⟩
  have f:∀a n m,g.R a=n->b+5<=n->n<=b+10->H a=some m->H' a=some m:=λa n m e l u q=>k.h a m (aj e (i n l u)) q;exact⟨f _ _ _ r1 qt (vD rfl) h.sl,f _ _ _ r2 (vD rfl) (vD rfl) h.s2,⟨f _ _ _ r3 (vD rfl) (vD rfl) h.sn.o,⟨f _ _ _ r4 (vD rfl) (vD rfl) h.sn.co.c,f _ _ _ r5 (vD rfl) (vD rfl) h.sn.co.v,f _ _ _ r6 (vD rfl) qt h.sn.co.l,f _ _ _ r7 (vD rfl) qt h.sn.co.o,f _ _ _ r8 (vD rfl) qt h.sn.co.n⟩⟩⟩
 |none,some _,_,h=>h.elim
 |some _,none,_,h=>h.elim
theorem ll.keep(k:bJ s H g H' g')(i:∀n,b<=n->n<=b+10->s n)(r:ll g.R b z):ll g'.R b z:=by
 rcases r with⟨r1,r2,r3,r4,r5,r6,r7,r8⟩
 have f:∀a n,g.R a=n->b<=n->n<=b+10->g'.R a=n:=λa n e l u=>(k.r a (aj e (i n l u))).trans e;exact⟨f _ _ r1 vt (vD rfl),f _ _ r2 vt (vD rfl),f _ _ r3 vt (vD rfl),f _ _ r4 vt (vD rfl),f _ _ r5 vt (vD rfl),f _ _ r6 vt qt,f _ _ r7 vt qt,f _ _ r8 vt qt⟩
theorem tR.keep(k:bJ s H g H' g')(s1:s 1)(s3:s 3)(x:tR H g t):tR H' g' t:=
 ⟨(k.r _ (aj x.p s3)).trans x.p,k.h _ _ (aj x.p s3) x.h,(k.r _ (aj x.e s1)).trans x.e,x.r.trans (k.m _ (aj x.e s1)).symm⟩
theorem i5.keep{H:Hp}(k:bJ (oz b) H g H' g')(x:i5 H g b A h sn rej cj):i5 H' g' b A h sn rej cj:=by
 have i:∀n,b<=n->n<=b+10->oz b n:=λn l u=>.inr (.inr ⟨l,u⟩);have f:∀a n,g.R a=n->b<=n->n<=b+10->g'.R a=n:=λa n e l u=>(k.r a (aj e (i n l u))).trans e;have c:∀a n m,g.R a=n->b<=n->n<=b+10->H a=some m->H' a=some m:=λa n m e l u q=>k.h a m (aj e (i n l u)) q;exact⟨c _ _ _ x.rg qt vt x.hg,c _ _ _ x.rm vt (vD rfl) x.hm,c _ _ _ x.Fc vt (vD rfl) x.hu,c _ _ _ x.Jx vt (vD rfl) x.h3,c _ _ _ x.Ft vt (vD rfl) x.he,
  λt j=>(x.ht t j).keep k (.inl rfl) (.inr (.inl rfl)),x.hs.keep k (λn l u=>i n (X7 l) u) x.rs,f _ _ x.rg qt vt,f _ _ x.rm vt (vD rfl),f _ _ x.Fc vt (vD rfl),f _ _ x.Jx vt (vD rfl),f _ _ x.Ft vt (vD rfl),λz d=>(x.rs z d).keep k i⟩
theorem FL{H:Hp}(C:Cells H g):∀{c:List Tr},(∀t∈c,tR H g t)->i8 H c (c.map λt=>g.en t.e)
 |[],_=>trivial
 |t::c,h=>by
  have x:=h t j4;erw[cA (C.ent t.e (.inl x.e)),(a b _),<-⟨⟨x.h,a,by erw[aj x.r,<-b]⟩,FL C λt d=>h t (fR d)⟩]
theorem i5.mb(C:Cells H g)(x:i5 H g b A h sn rej cj):Mb H A h (A.tr.map λt=>g.en t.e) sn rej cj:=
 ⟨x.hg,x.hm,x.hu,x.h3,x.he,FL C x.ht,x.hs⟩
structure jv(h:Nat->Int)(sn:Option Sn)(cj:List UInt8)(tr:List Tr)(t:Nat):Prop where
 hi:∀j,j<8->rE (h j)
 zv:h 0<=20
 len:tr.length<=5
 so:∀s,sn=some s->s.Ok/\s.ids≠[]/\s.ids.length<=t+1/\∀i∈s.ids,i<=200*(t+1)
 c:cj.length<=200
theorem jv.ok(C:Cells H g)(p:jv h sn cj tr t)(x:∀y∈tr,g.R y.e=1):uP h (tr.map λt=>g.en t.e) sn cj:=
 ⟨p.hi,p.zv,λz a=>by
  erw[ay (cK.mp a),(y b f)];subst f;exact(C.ent _ (.inl (x y b))).2.2.2.2,by rw[aq];have:=p.len;exact dK this rfl,λs d=>(p.so s d).1,p.c⟩
structure gu(H:Hp)(g:Gh)(pl:Addr)(ts:List Tr):Prop where
 h:H pl=some (.list (aT (ts.map (·.p))))
 ne:ts≠[]
 len:ts.length<=5
 tr:∀t∈ts,tR H g t
 r:g.R pl=6
theorem gu.keep{H:Hp}(k:bJ (λn=>n=1\/n=3\/n=6) H g H' g')(x:gu H g pl ts):gu H' g' pl ts:=
 ⟨k.h _ _ (.inr (.inr x.r)) x.h,x.ne,x.len,λt a=>(x.tr t a).keep k (.inl rfl) (.inr (.inl rfl)),(k.r _ (.inr (.inr x.r))).trans x.r⟩
structure Iw(H:Hp)(g:Gh)(A:KbA)(c:Cm):Prop where
 kb:Kb H A c
 rk:g.R A.kl=11
 rc:g.R A.cm=12
 rr:g.R A.kr=13
theorem Iw.keep(k:bJ (λn=>n=11\/n=12\/n=13) H g H' g')(x:Iw H g A c):Iw H' g' A c:=
 ⟨⟨k.h _ _ (.inl x.rk) x.kb.k,k.h _ _ (.inr (.inl x.rc)) x.kb.c,k.h _ _ (.inr (.inr x.rr)) x.kb.r⟩,(k.r _ (.inl x.rk)).trans x.rk,(k.r _ (.inr (.inl x.rc))).trans x.rc,(k.r _ (.inr (.inr x.rr))).trans x.rr⟩
structure WbA where
 wl:Addr
 u:Addr
 ue:Addr
 w2:Addr
structure Js(H:Hp)(g:Gh)(A:WbA)(off:Nat)(es:List Addr):Prop where
 hw:H A.wl=some (.list [.ref A.u,.int (off:Int),.ref A.w2])
 hu:H A.u=some (B4 A.ue off)
 TS:H A.ue=some (.list (aT es))
 Tf:H A.w2=some (.list (aT (es.map g.mt)))
 ER:∀e∈es,g.R e=4
 nd:es.Nodup
 rw:g.R A.wl=7
 ru:g.R A.u=8
 rue:g.R A.ue=9
 Y5:g.R A.w2=10
def sW(n:Nat):Prop:=n=4\/(7<=n/\n<=10)
theorem Js.keep(k:bJ sW H g H' g')(x:Js H g A off es):Js H' g' A off es:=by
 have e1:=dQ λe d=>k.m e (.inl (x.ER e d));have f:∀a n,g.R a=n->7<=n->n<=10->g'.R a=n:=λa n e l u=>(k.r a (aj e (.inr ⟨l,u⟩))).trans e;have c:∀a n b,g.R a=n->7<=n->n<=10->H a=some b->H' a=some b:=λa n b e l u q=>k.h a b (aj e (.inr ⟨l,u⟩)) q;erw[<-⟨c _ _ _ x.rw (dc rfl) (dc rfl) x.hw,c _ _ _ x.ru (dc rfl) (dc rfl) x.hu,c _ _ _ x.rue (dc rfl) (dc rfl) x.TS,?_,λe d=>(k.r e (.inl (x.ER e d))).trans (x.ER e d),x.nd,f _ _ x.rw (dc rfl) (dc rfl),f _ _ x.ru (dc rfl) (dc rfl),f _ _ x.rue (dc rfl) (dc rfl),f _ _ x.Y5 (dc rfl) (dc rfl)⟩,aj e1,<-c _ _ _ x.Y5 (dc rfl) (dc rfl) x.Tf]
structure WP(off:Nat)(es:List Addr)(t:Nat):Prop where
 lo:110<=off+t
 hi:off<=2^57+100*t
 len:es.length<=2*t
abbrev Nz:=Addr×List V
structure wB(H:Hp)(g:Gh)(nz:Nz):Prop where
 h:H nz.1=some (.list nz.2)
 r:g.R nz.1=14
theorem wB.keep(x:wB H g nz)(k:bJ (λn=>n=14) H g H' g'):wB H' g' nz:=⟨k.h _ _ x.r x.h,(k.r _ x.r).trans x.r⟩
structure Inv(nz:Nz)(pl ga ka wa:Addr)(t:Nat)(H:Hp)(g:Gh):Prop where
 cells:Cells H g
 claim:Claim H g
 yY:∃ts,gu H g pl ts
 msg:∃A h sn rej cj,A.gl=ga/\i5 H g 20 A h sn rej cj/\jv h sn cj A.tr t
 cmd:∃A c,A.kl=ka/\Iw H g A c/\c.Good
 wait:∃A off es,A.wl=wa/\Js H g A off es/\WP off es t
 num:wB H g nz
theorem jv.up(p:jv h sn cj tr t):jv h sn cj tr (t+1):=
 ⟨p.hi,p.zv,p.len,λs e=>by erw[dX (p.so s e),(a b c d),<-⟨a,b,UZ c,λi f=>by have:=d i f;exact Vl this⟩],p.c⟩
theorem WP.up(p:WP off es t):WP off es (t+1):=⟨by have:=p.lo;exact Xe this,by have:=p.hi;exact XZ this,by have:=p.len;exact fe [(av,zm 2 aW)] (av,zm 2 (zs aW)) rt this⟩
theorem Inv.up{H:Hp}(I:Inv nz pl ga ka wa t H g):Inv nz pl ga ka wa (t+1) H g:=by
 erw[iN I.msg,(A h s r c e m p),iB I.wait,(B o a b w q),<-⟨I.cells,I.claim,I.yY,⟨A,h,s,r,c,e,m,p.up⟩,I.cmd,⟨B,o,a,b,w,q.up⟩,I.num⟩]
theorem Cells.ext(C:Cells H g)(e:Ext H H'):Cells H' g:=
 ⟨λx h=>by erw[cA (C.ent x h),(a b c),<-⟨e _ _ a,e _ _ b,c⟩],λp d=>by erw[ay (C.pr p d),(x a b),<-⟨x,a,e _ _ b⟩]⟩
theorem Inv.ext{H:Hp}(I:Inv nz pl ga ka wa t H g)(e:Ext H H'):Inv nz pl ga ka wa t H' g:=by
 erw[iN I.msg,(A h s r d e1 m p),iB I.wait,(B o b e2 w q),df I.cmd,(D c e3 k f),bf I.yY,(a P),<-⟨I.cells.ext e,I.claim.ext e,⟨a,P.keep (.ext e)⟩,⟨A,h,s,r,d,e1,m.keep (.ext e),p⟩,⟨D,c,e3,k.keep (.ext e),f⟩,⟨B,o,b,e2,w.keep (.ext e),q⟩,I.num.keep (.ext e)⟩]
noncomputable def Gh.put(g:Gh)(e:Addr)(x:En):Gh:={g with en:=λa=>if a=e then x else g.en a}
theorem Cells.put{H:Hp}(C:Cells H g)(f:g.R e=1\/g.R e=4)(s:x.Good):Cells (upd (upd H (g.mt e) (.list x.vs)) e x.o) (g.put e x):=by
 erw[iu (C.ent e f),(E B b w y)];have O:=bX rfl b Y4;refine⟨λd h=>?_,λp l=>?_⟩
 ·have h:g.R d=1\/g.R d=4:=h;erw[iu (C.ent d h),(v u k j t)]
  by_cases q:d=e
  ·subst q;have i:(g.put d x).en d=x:=if_pos rfl;erw[aj i,<-⟨us,ae (aJ O) us,k,j,s⟩]
  ·have i:(g.put e x).en d=g.en d:=if_neg q;erw[aj i];have r:d≠g.mt e:=λz=>by rw[z,b] at h;lia
   have m:g.mt d≠g.mt e:=λz=>q (c_ j (aj z (aj w rfl)));have n:g.mt d≠e:=λz=>by rw[z] at k;lia
   exact⟨ae q (ae r v),ae n (ae m u),k,j,t⟩
 ·erw[ay (C.pr p l),(d h c)];have a:=l;exact⟨d,h,ae (λz=>by rw[z] at a;exact f.elim (λA=>cH [(zn 3,av),(av,zn 1)] rt (aa (ao a)) (aa A)) (λA=>cH [(av,zn 3),(zn 4,av)] rt (aa a) (aa (ao A)))) (ae (λz=>by rw[z] at a;exact f.elim (λD=>Gp [(zn 3,av),(av,zs aW),(aW,zn 1)] rt (aa (ao a)) (aa b) (aa D)) (λD=>Gp [(av,zn 3),(zs aW,av),(zn 4,aW)] rt (aa a) (aa (ao b)) (aa (ao D)))) c)⟩
theorem bJ.put{H:Hp}(b:¬s (g.R e))(n:¬s (g.R (g.mt e))):bJ s H g (Mine.upd (Mine.upd H (g.mt e) y) e z) (g.put e x):=
 ⟨λ_ _=>rfl,λ_ _=>rfl,λa m h k=>ae (λq=>b (q▸h)) (ae (λq=>n (q▸h)) k)⟩
theorem Inv.put{H:Hp}(I:Inv nz pl ga ka wa t H g)(d:g.R e=1)(J:x.Good):Inv nz pl ga ka wa t (upd (upd H (g.mt e) (.list x.vs)) e x.o) (g.put e x):=by
 erw[iN I.msg,(A h F s L e1 m p),iB I.wait,(B v K e2 w q),df I.cmd,(D c e3 k M)];have f:g.R (g.mt e)=2:=by have:=(I.cells.ent e (.inl d)).2.2.1;exact VZ d this
 erw[bf I.yY,(E P)];have C:bJ (λn=>n=3\/n=6) H g (upd (upd H (g.mt e) (.list x.vs)) e x.o) (g.put e x):=.put (aj d (dc rfl)) (aj f (dc rfl));refine⟨I.cells.put (.inl d) J,⟨λa G=>(I.claim.upd.upd).c a G⟩,⟨E,C.h _ _ (.inr P.r) P.h,P.ne,P.len,λy b=>⟨(P.tr y b).p,C.h _ _ (.inl (P.tr y b).p) (P.tr y b).h,(P.tr y b).e,(P.tr y b).r⟩,P.r⟩,⟨A,h,F,s,L,e1,?_,p⟩,⟨D,c,e3,k.keep (.put (aj d (dc rfl)) (aj f (dc rfl))),M⟩,⟨B,v,K,e2,w.keep (.put (by erw[aj d];unfold sW;decide) (by erw[aj f];unfold sW;decide)),q⟩,I.num.keep (.put (aj d (dc rfl)) (aj f (dc rfl)))⟩;rcases m with⟨m1,m2,m3,m4,m5,m6,m7,m8,m9,Qi,Qo,Q8,Qm⟩
 have z:bJ (λn=>n=3\/(20<=n/\n<=20+10)) H g (upd (upd H (g.mt e) (.list x.vs)) e x.o) (g.put e x):=.put (aj d (dc rfl)) (aj f (dc rfl));have i:∀a n j,g.R a=n->20<=n->n<=30->H a=some j->(upd (upd H (g.mt e) (.list x.vs)) e x.o) a=some j:=λa n j e l u q=>z.h a j (.inr (⟨fe [(zn 20,av),(av,aW)] (zn 20,aW) rt l (aa (ao e)),fe [(av,zn 30),(aW,av)] (aW,zk (zn 20) 10) rt u (aa e)⟩)) q;exact⟨i _ _ _ m8 (dc rfl) (dc rfl) m1,i _ _ _ m9 (dc rfl) (dc rfl) m2,i _ _ _ Qi (dc rfl) (dc rfl) m3,i _ _ _ Qo (dc rfl) (dc rfl) m4,i _ _ _ Q8 (dc rfl) (dc rfl) m5,λy b=>⟨(m6 y b).p,z.h _ _ (.inl (m6 y b).p) (m6 y b).h,(m6 y b).e,(m6 y b).r⟩,m7.keep z (λn l u=>.inr ⟨dJ [(zk (zn 20) 5,av)] (zn 20,av) rt l,u⟩) Qm,m8,m9,Qi,Qo,Q8,Qm⟩
noncomputable def Gh.twin(g:Gh)(t:Tr)(x:En):Gh:=
 ⟨λa=>if a=t.p then 3 else if a=t.e then 1 else if a=t.r then 2 else g.R a,λa=>if a=t.e then t.r else if a=t.r then t.e else g.mt a,λa=>if a=t.e then x else g.en a⟩
structure Fr(H:Hp)(t:Tr):Prop where
 p:H t.p=none
 e:H t.e=none
 r:H t.r=none
theorem Pr.ne{p e r:Addr}(h:Pr H p e r x):p≠e/\p≠r/\e≠r:=⟨fQ h.p h.e (λz=>by injection z),fQ h.p h.r (λz=>by cases z),fQ h.e h.r (λz=>by injection z)⟩
structure Fz(g:Gh)(t:Tr):Prop where
 p:g.R t.p=0
 e:g.R t.e=0
 r:g.R t.r=0
theorem Fr.z(f:Fr H t)(C:Claim H g):Fz g t:=⟨C.fresh f.p,C.fresh f.e,C.fresh f.r⟩
theorem bJ.qN(f:Fz g t)(e:Ext H H')(s0:¬s 0):bJ s H g H' (g.twin t x):=by
 have z:∀a,s (g.R a)->a≠t.p/\a≠t.e/\a≠t.r:=λa h=>⟨λq=>s0 (c_ f.p (c_ q h)),λq=>s0 (c_ f.e (c_ q h)),λq=>s0 (c_ f.r (c_ q h))⟩;refine⟨λa h=>?_,λa h=>?_,λa m _ h=>e a m h⟩
 ·erw[cA (z a h),(d c b)];show(if a=t.p then 3 else if a=t.e then 1 else if a=t.r then 2 else g.R a)=g.R a;erw[aj (if_neg d),aj (if_neg c),aj (if_neg b)];rfl
 ·erw[cA (z a h),(d c b)];show(if a=t.e then t.r else if a=t.r then t.e else g.mt a)=g.mt a;erw[aj (if_neg c),aj (if_neg b)];rfl
theorem bJ.twin{H:Hp}(C:Claim H g)(f:Fr H t)(e:Ext H H')(s0:¬s 0):bJ s H g H' (g.twin t x):=.qN (f.z C) e s0
theorem Kw{g:Gh}(n:t.p≠t.e/\t.p≠t.r/\t.e≠t.r):(g.twin t x).R t.p=3/\(g.twin t x).R t.e=1/\(g.twin t x).R t.r=2/\(g.twin t x).mt t.e=t.r/\(g.twin t x).mt t.r=t.e/\(g.twin t x).en t.e=x:=by
 erw[cA n,(c b a),<-⟨if_pos rfl,?_,?_,if_pos rfl,?_,if_pos rfl⟩]
 ·show(if t.e=t.p then 3 else if t.e=t.e then 1 else _)=1;erw[aj (if_neg (aJ c)),aj (if_pos rfl)];rfl
 ·show(if t.r=t.p then 3 else if t.r=t.e then 1 else if t.r=t.r then 2 else _)=2;erw[aj (if_neg (aJ b)),aj (if_neg (aJ a)),aj (if_pos rfl)];rfl
 ·show(if t.r=t.e then t.r else if t.r=t.r then t.e else _)=t.e;erw[aj (if_neg (aJ a)),aj (if_pos rfl)];rfl
theorem Cells.twin{H:Hp}(C:Cells H g)(f:Fz g t)(e:Ext H H')(h:Pr H' t.p t.e t.r x)(I:x.Good):Cells H' (g.twin t x):=by
 erw[FX (Kw (g:=g) (x:=x) h.ne),(F o l y E D)];have k:bJ (λn=>n≠0) H g H' (g.twin t x):=.qN f e (λh=>h rfl);have c:∀a,a≠t.p->a≠t.e->a≠t.r->(g.twin t x).R a=g.R a:=λa Q P O=>by
  show(if a=t.p then 3 else if a=t.e then 1 else if a=t.r then 2 else g.R a)=g.R a;erw[aj (if_neg Q),aj (if_neg P),aj (if_neg O)];rfl
 refine⟨λd b=>?_,λp i=>?_⟩
 ·by_cases q:d=t.e
  ·subst q;erw[aj D,aj y,aj o,aj l,aj E,<-⟨h.e,h.r,rfl,rfl,I⟩]
  ·have u:d≠t.p:=λz=>by rw[z,F] at b;exact b.elim (λw=>Ef [(zn 3,zn 1)] rt (aa w)) (λw=>Ef [(zn 4,zn 3)] rt (aa (ao w)))
   have s:d≠t.r:=λz=>by rw[z,l] at b;exact b.elim (λG=>Ef [(zn 2,zn 1)] rt (aa G)) (λG=>Ef [(zn 4,zn 2)] rt (aa (ao G)))
   rw[c d u q s] at b;erw[iu (C.ent d b),(N M B L K)];have j:g.R d≠0:=by exact WM b
   have A:g.R (g.mt d)≠0:=by exact Vi B
   have J:(g.twin t x).en d=g.en d:=if_neg q;erw[aj (k.m d j),aj (k.r d j),aj (k.r _ A),aj (k.m _ A),aj J,<-⟨e _ _ N,e _ _ M,B,L,K⟩]
 ·by_cases q:p=t.p
  ·subst q;exact⟨t.e,o,by erw[aj y,<-h.p]⟩
  ·have u:p≠t.e:=λz=>by rw[z,o] at i;exact Ef [(zn 3,zn 1)] rt (aa (ao i))
   have s:p≠t.r:=λz=>by rw[z,l] at i;exact Ef [(zn 3,zn 2)] rt (aa (ao i))
   rw[c p q u s] at i;erw[ay (C.pr p i),(d b v)];have j:g.R d≠0:=by exact UK b rfl
   exact⟨d,(k.r d j).trans b,by erw[aj (k.m d j),<-e _ _ v]⟩
theorem Claim.twin{H:Hp}(K:Claim H g)(e:Ext H H')(h:Pr H' t.p t.e t.r x):Claim H' (g.twin t x):=⟨λa i q=>by
 by_cases f:a=t.p
 ·rw[f,h.p] at q;injection q
 ·by_cases d:a=t.e
  ·rw[d,h.e] at q;injection q
  ·by_cases b:a=t.r
   ·rw[b,h.r] at q;injection q
   ·refine K.c a (λz=>i ?_) (aI e q);show(if a=t.p then 3 else if a=t.e then 1 else if a=t.r then 2 else g.R a)=0;erw[aj (if_neg f),aj (if_neg d),aj (if_neg b),aj z];rfl⟩
theorem Inv.qN{n:Nat}{H:Hp}(I:Inv nz pl ga ka wa n H g)(f:Fz g t)(e:Ext H H')(b:Pr H' t.p t.e t.r x)(i:x.Good):Inv nz pl ga ka wa n H' (g.twin t x):=by
 erw[iN I.msg,(A h s a l e1 m p),iB I.wait,(B o j e2 w q),df I.cmd,(D c e3 k u),bf I.yY,(d P),<-⟨I.cells.twin f e b i,I.claim.twin e b,⟨d,P.keep (.qN f e (dc rfl))⟩,⟨A,h,s,a,l,e1,m.keep (.qN f e (by unfold oz;decide)),p⟩,⟨D,c,e3,k.keep (.qN f e (dc rfl)),u⟩,⟨B,o,j,e2,w.keep (.qN f e (by unfold sW;decide)),q⟩,I.num.keep (.qN f e (dc rfl))⟩]
theorem Inv.twin{n:Nat}{H:Hp}(I:Inv nz pl ga ka wa n H g)(f:Fr H t)(e:Ext H H')(h:Pr H' t.p t.e t.r x)(a:x.Good):Inv nz pl ga ka wa n H' (g.twin t x):=I.qN (f.z I.claim) e h a
theorem EU(l:List Addr)(j:Nat)(a:Addr):(aT l).set j (.ref a)=aT (l.set j a):=by unfold aT;refine' aj Hh ?_;rfl
theorem Inv.HQ(I:Inv nz pl ga ka wa n H g)(P:gu H g pl ts)(v:tR H g t)(j:Nat):Inv nz pl ga ka wa n (upd H pl (.list (aT ((ts.set j t).map (·.p))))) g:=by
 erw[iN I.msg,(A h u i F e1 m p),iB I.wait,(B o E e2 w q),df I.cmd,(D c e3 k J)];have a:=P.r;have s:∀y,tR H g y->tR (upd H pl (.list (aT ((ts.set j t).map (·.p))))) g y:=λy hy=>⟨hy.p,ae (bX hy.p a (dc rfl)) hy.h,hy.e,hy.r⟩;refine⟨⟨λd b=>?_,λd b=>?_⟩,I.claim.upd,⟨ts.set j t,us,?_,by erw[aj List.length_set,<-P.len],λy hy=>?_,a⟩,⟨A,h,u,i,F,e1,m.keep (.upd (by erw[aj a];unfold oz;decide)),p⟩,⟨D,c,e3,k.keep (.upd (aj a (dc rfl))),J⟩,⟨B,o,E,e2,w.keep (.upd (by erw[aj a];unfold sW;decide)),q⟩,I.num.keep (.upd (aj a (dc rfl)))⟩
 ·erw[iu (I.cells.ent d b),(N M f L K),<-⟨ae (λz=>by rw[z,a] at b;exact b.elim (λl=>Ef [(zn 6,zn 1)] rt (aa l)) (λl=>Ef [(zn 6,zn 4)] rt (aa l))) N,ae (λz=>by rw[z,a] at f;exact b.elim (λG=>cH [(zn 6,zs av),(av,zn 1)] rt (aa f) (aa G)) (λG=>cH [(zn 6,zs av),(av,zn 4)] rt (aa f) (aa G))) M,f,L,K⟩]
 ·erw[ay (I.cells.pr d b),(c C x),<-⟨c,C,ae (bX b a (dc rfl)) x⟩]
 ·intro z;have:=congrArg cF z;rw[List.length_set,Bw] at this;exact P.ne (Fn.mp this)
 ·rcases List.mem_or_eq_of_mem_set hy with hy|hy
  ·exact s y (P.tr y hy)
  ·erw[aj hy,<-s t v]
variable{nz:Nz}
variable{pl:Addr}
variable{ga:Addr}
variable{ka:Addr}
variable{wa:Addr}
variable{t:Nat}
variable{g:Gh}
variable{ts:List Tr}
variable{j:Nat}
variable{y:Nat}
section
variable{G:Hp}
theorem tR.pr(C:Cells H g){t:Tr}(h:tR H g t):Pr H t.p t.e t.r (g.en t.e)/\(g.en t.e).Good:=by
 erw[iu (C.ent t.e (.inl h.e)),(a b _ _ k),<-⟨⟨h.h,a,by erw[aj h.r,<-b]⟩,k⟩]
theorem oa(P:gu H g pl ts)(h:j<ts.length):∃z∈ts,ts[j]?=some z/\(aT (ts.map (·.p)))[j]?=some (.ref z.p)/\tR H g z:=
 ⟨ts[j],fL h,bx h,jL (by erw[aj (cP),aj (bx h)];rfl),P.tr _ (fL h)⟩
theorem tF(f:Tr->V)(h:H a=some (.list (aT (ts.map (·.p)))))(l:ts.length<=1000)(i:∀(t:Tr),t∈ts->∀G:V->Hp->Prop,G (f t) H->dk af w K aG n elt (upd ρ 1000 (.ref t.p)) H G Du)(q:∀c,H c=none->Q (.ref c) (upd H c (.list (ts.map f)))):sU af w K n elt none ρ Q (.ref a) H:=by
 have hl:(aT (ts.map (·.p))).length<=1000:=by rw[bG,aq];exact l
 refine sS h hl (λr b d=>d=H/\∃t1 t2:List Tr,r=aT (t2.map (·.p))/\t1++t2=ts/\b=t1.map f) ⟨rfl,[],ts,rfl,rfl,rfl⟩ (λb d=>gk λe=>(df · λt1 t2 e1 e2 e3=>?_)) λv r b d=>gk λe=>(df · λt1 t2 e1 e2 e3 G g=>?_)
 ·replace e:=e.symm;subst e
  induction t2 using lcs with
  |cons=>injection e1
  |nil=>
   rw[a_] at e2;replace e2:=e2.symm;subst e2;subst e3;exact q
 ·replace e:=e.symm;subst e
  induction t2 using lcs with
  |nil=>injection e1
  |cons t t2=>
   injection e1 with e1 e5
   subst e1;subst e5;exact i t (by erw[c_ e2];simp) G (g _ _ h ⟨rfl,t1++[t],t2,rfl,by erw[c_ e2];rewrite[aC];rfl,by erw[aj e3,aj aX];rfl⟩)
noncomputable def En.CH(x:En)(f:Nat):Int:=match f with
 |0=>x.t
 |1=>x.i
 |_=>x.k
theorem En.Ot(x:En)(h:f<3):x.vs[f]?=some (.int (x.CH f)):=by
 refine UG h ?_ ?_ ?_
 ·rfl
 ·rfl
 ·rfl
theorem En.PI(x:En)(h:f<3)(v:Int):(x.d6 f v).d6 f (x.CH f)=x:=by
 refine UG h ?_ ?_ ?_
 ·rfl
 ·rfl
 ·rfl
theorem En.Mk{x:En}(b:x.An)(f:Nat)(h:big v):(x.d6 f v).An:=by
 rcases b with⟨b1,b2,b3,b4⟩
 match f with
 |0=>exact⟨h,b2,b3,b4⟩
 |1=>exact⟨b1,h,b3,b4⟩
 |_+2=>exact⟨b1,b2,h,b4⟩
theorem En.KG{x:En}(f:Nat)(h:¬rE v):¬(x.d6 f v).In:=λi=>by
 match f with
 |0=>exact h i.t
 |1=>exact h i.i
 |_+2=>exact h i.k
theorem iM(h:y<2^39):Y y:=b_ h (dc rfl)
theorem vY(h:y<2^39)(k:Nat):y / k<2^39:=aM (nK _ _) h
theorem Si(R:Rd af w K)(I:Inv nz pl ga ka wa t H g)(P:gu H g pl ts)(hj:j<ts.length)(M:y<2^39)(f:aB 8 n=true)(q:Q (.bool true) H):aY af w K n 925 [.ref pl,.int (j:Int),.int (y:Int)] H Q X:=by
 erw[R.sk.to rfl f,(n f),fc (oa P hj),(z QT _ hz G),aD (G.pr I.cells),(C gd),cA C.ne,(n1 n2 n3)];have hf:y%3<3:=k_;have jl:=P.len;have lH:(aT (ts.map (·.p))).length<=100000:=by rw[bG,aq];exact dK jl rfl
 have h2:([V.ref z.e,.ref z.r]).length<=100000:=dc rfl;have h4:(g.en z.e).vs.length<=100000:=dc rfl;have D:g.R z.r=2:=by
  erw[aj G.r];have:=(I.cells.ent z.e (.inl G.e)).2.2.1;rw[G.e] at this;exact this
 have npe:=bX P.r G.e (dc rfl);have npr:=bX P.r D (dc rfl);generalize hx:g.en z.e=x at C gd h4;erw[Zg,Zf rfl rfl,aw P.h lH (fh hz),Zg,Zs rfl rfl,dI rfl,Zg,Zo rfl,Zf rfl rfl,aw C.p h2 rfl,aw C.r h4 (fh (x.Ot hf)),Zk,Zq,Zr rfl,Zr rfl,Za,Zq,Za,Zs rfl rfl,dS rfl (iM M).big rfl,Zb,xm R ((iM M).div 3) (lv f rfl),(v hv a),Zb,mG R C WV (lv f rfl)];have O:=En.Mk gd.b (y%3) a;have N:=En.KG (x:=x) (y%3) hv;have hsg:=x.PI hf v;generalize x.d6 (y%3) v=x1 at O N hsg;generalize A:upd (upd H z.r (.list x1.vs)) z.e x1.o=H1;have J:∀b mo,b≠z.e->b≠z.r->H b=some mo->H1 b=some mo:=λb mo a1 a2 a=>by refine' c_ A ?_;exact ae a1 (ae a2 a)
 have yX:Pr H1 z.p z.e z.r x1:=⟨J _ _ n1 n2 C.p,by erw[c_ A,<-us],by erw[c_ A,<-ae (aJ n3) us]⟩;have pl1:=J _ _ npe npr P.h;have f1:∀b,H1 b=none->H b=none:=λb a=>by
  rw[<-A] at a;exact(bo (bo a).1).1
 erw[Zg,ZQ,Zah rfl rfl rfl rfl,(m hm),<-nW R hm (lv f rfl) λk OI ne=>⟨rfl,?_⟩];have nme:=aJ ne;generalize hO:dD _ k V.none false []=O1;have B:∀L,Ext H1 (upd (upd H1 k L) m O1):=λL=>Ext.fresh (Ext.fresh Ext.refl OI) hm;have SX:∀L,(upd (upd H1 k L) m O1) m=some O1:=λL=>us;have LH:∀L,(upd (upd H1 k L) m O1) k=some L:=λL=>ae nme us
 obtain ⟨fs,hfs,aaM⟩:∃fs,O1=MO.inst 578 fs/\Aw fs 15=some (.ref k):=⟨_,hO.symm,rfl⟩
 erw[Zk,Zm,Zl rfl,aO ((SX _).trans (congrArg some hfs)) rfl aaM,<-oW (LH _) ⟨rfl,?_⟩,Za,Zf rfl rfl,aw (B _ _ _ yX.p) h2 rfl,Zb,qQ (LH _) (hX _),aj (fw ne)];rewrite[bR];have U:=yX.ext (B (.list ([]++[V.ref z.e])));erw[Zg,Zal,Zq,Zr rfl,Za,Zf rfl rfl,aw U.p h2 rfl,Zb,EJ R U.e O N (lv f rfl),Zx,Zp,ZY,Zq,Zr rfl,Za,Zf rfl rfl,aw U.p h2 rfl,Zb,Ec R U.e O N (lv f rfl),Zx,Zp,ZU rfl rfl];have EY:=(SX (.list ([]++[V.ref z.e]))).trans (congrArg some hO.symm);erw[yQ R (es:=[z.e]) (xs:=[x1]) EY (LH _) ⟨U.e,trivial⟩ .none ⟨λj hj=>?_,(aK O fK),aE rfl,(λs hs=>nomatch hs),aE rfl⟩ (λi=>N (i.xi x1 j4)) (lv f rfl)]
 ·refine Vx hj ?_ ?_ ?_ ?_ ?_ ?_ ?_ ?_
  ·exact du (dc rfl)
  ·exact du (dc rfl)
  ·exact du (dc rfl)
  ·exact du (dc rfl)
  ·exact du (dc rfl)
  ·exact du (dc rfl)
  ·exact du (dc rfl)
  ·exact du (dc rfl)
 have fin:∀H2 ρ,Ext H1 H2->ρ 3=some (.ref z.p)->ρ 4=some (.int (y%3:Nat))->ρ 5=some (.int (x.CH (y%3)))->ρ 7=some (.bool true)->bO af w K aG n [.expr (bD 804 [dP,fB,fG]),dj (.and [AZ,(bD 832 [dP])])] ρ H2 (dE Q) (cG X):=λH2 ρ e2 r3 r4 r5 r7=>by
  have T:=yX.ext e2;erw[Zk,<-Zaj r3 r4 r5 ?_,mG R T WV (lv f rfl),aj hsg];have pr4:Pr (upd (upd H2 z.r (.list x.vs)) z.e x.o) z.p z.e z.r x:=⟨ae n1 (ae n2 T.p),us,ae (aJ n3) us⟩;erw[Zt,ZY,<-Zc r7 ?_,Zx,Zp,<-Zz r3 ?_,oj R pr4 gd (lv f rfl),<-bH (λb mo a=>?_) q]
  by_cases q1:b=z.e
  ·subst q1;rw[C.e] at a;erw[c_ a,<-us]
  ·by_cases q2:b=z.r
   ·subst q2;rw[C.r] at a;erw[c_ a,<-ae q1 us]
   ·exact ae q1 (ae q2 (e2 _ _ (J b mo q1 q2 a)))
 erw[Zh,Zj rfl rfl,<-j_ (λ_=>?_) (λ_=>?_)]
 ·erw[Zp,Zg,ZY,Zc rfl,Zx,Zp,Zq,Zr rfl,Za,ZJ,Zc rfl];have abl:=B (.list ([]++[V.ref z.e])) _ _ pl1;have S:∀y∈ts,∃F:En,(upd (upd H1 k (.list ([]++[V.ref z.e]))) m O1) y.p=some (.list [.ref y.e,.ref y.r])/\(upd (upd H1 k (.list ([]++[V.ref z.e]))) m O1) y.e=some F.o/\F.An/\(y.e=z.e->F=x1):=λy M=>by
   have ht:=P.tr y M;erw[aD (ht.pr I.cells),(E gy)];have Y:=bX ht.p G.e (dc rfl);have W:=bX ht.p D (dc rfl)
   by_cases qe:y.e=z.e
   ·exact⟨x1,B _ _ _ (J _ _ Y W E.p),by erw[aj qe,<-U.e],O,λ_=>rfl⟩
   ·have np3:=bX ht.e D (dc rfl);exact⟨g.en y.e,B _ _ _ (J _ _ Y W E.p),B _ _ _ (J _ _ qe np3 E.e),gy.b,λz=>absurd z qe⟩
  refine tF (λy=>.ref y.e) abl (dK jl rfl) (λy M G' hG=>?_) λc hc=>?_
  ·erw[fc (S y M),(F a1 a2 a3 _),Zf rfl rfl,aw a1 (dc rfl) rfl,<-hG]
  ·have exs:∃d:List En,dT (upd (upd H1 k (.list ([]++[V.ref z.e]))) m O1) (ts.map (·.e)) d/\(∀x∈d,x.An)/\(z∈ts->x1∈d):=by
    have:∀l:List Tr,(∀y∈l,y∈ts)->∃d:List En,dT (upd (upd H1 k (.list ([]++[V.ref z.e]))) m O1) (l.map (·.e)) d/\(∀x∈d,x.An)/\(z∈l->x1∈d):=λl=>by
     induction l with
     |nil=>exact λ_=>⟨[],trivial,λ_ h=>(nomatch h),λh=>(nomatch h)⟩
     |cons y l ih=>
      erw[(hl),cX (ih λu hu=>hl u (fR hu)),(d b1 b2 b3),fc (S y (hl y j4)),(F a1 a2 a3 a4),<-⟨F::d,⟨a2,b1⟩,aK a3 b2,λhm=>?_⟩];rcases bE.mp hm with e|hm
      ·erw[aj (a4 (aj e rfl)),<-j4]
      ·exact fR (b3 hm)
    exact this ts λ_ h=>h
   erw[cX exs,(d b1 b2 b3)];have bl:=b1.length;rw[aq] at bl;have em:(ts.map λy=>V.ref y.e)=aT (ts.map (·.e)):=by unfold aT;refine' aj eg ?_;rfl
   erw[aj em,Zb,ET R us (b1.ext (Ext.fresh Ext.refl hc)) b2 (lK (ao bl) jl rfl) (λh=>N (h x1 (b3 QT))) (lv f rfl),Ze,Zd,<-fin _ _ ((B _).trans (Ext.fresh Ext.refl hc)) rfl rfl rfl rfl]
 ·erw[Zi,Ze,Zd,<-fin _ _ (B _) rfl rfl rfl rfl]
end
section
variable{G:Hp}
theorem rmt(C:Cells H g){e:Addr}(h:g.R e=1):g.R (g.mt e)=2:=by
 have:=(C.ent e (.inl h)).2.2.1;exact VZ h this
theorem tR.put(C:Cells H g){e:Addr}(a:g.R e=1){x:En}{y' z':MO}{z:Tr}(h:tR H g z):tR (upd (upd H (g.mt e) y') e z') (g.put e x) z:=
 ⟨h.p,ae (bX h.p a (dc rfl)) (ae (bX h.p (rmt C a) (dc rfl)) h.h),h.e,h.r⟩
theorem gu.put(C:Cells H g){e:Addr}(a:g.R e=1){x:En}{y' z':MO}(P:gu H g pl ts):gu (upd (upd H (g.mt e) y') e z') (g.put e x) pl ts:=
 ⟨ae (bX P.r a (dc rfl)) (ae (bX P.r (rmt C a) (dc rfl)) P.h),P.ne,P.len,λz b=>(P.tr z b).put C a,P.r⟩
theorem tR.off{a:Addr}{y':MO}{z:Tr}(h:tR H g z)(n:g.R a≠3):tR (upd H a y') g z:=
 ⟨h.p,ae (λe=>n (c_ e h.p)) h.h,h.e,h.r⟩
theorem pE(R:Rd af w K)(I:Inv nz pl ga ka wa t H g){z:Tr}(h:tR H g z){f:Nat}(d:f<=3)(b:y<2^39)(c:aB 2 n=true)(q:∀(x':En),Inv nz pl ga ka wa t (upd (upd H (g.mt z.e) (.list x'.vs)) z.e x'.o) (g.put z.e x')->Q .none (upd (upd H (g.mt z.e) (.list x'.vs)) z.e x'.o)):aY af w K n 811 [.ref z.p,.int (f:Int),.int (y:Int)] H Q X:=by
 erw[aD (h.pr I.cells),(a j)];rw[h.r] at a;exact HZ R a j d b c λx' i=>q x' (I.put h.e i)
theorem CL{e r p:Addr}{x:En}{c:Addr->MO}(h:H e=none)(hr:(upd H e x.o) r=none)(j:(upd (upd H e x.o) r (.list x.vs)) p=none):
  Fr H ⟨p,e,r⟩/\Ext H (upd (upd (upd H e x.o) r (.list x.vs)) p (.list [.ref e,.ref r]))/\Pr (upd (upd (upd H e x.o) r (.list x.vs)) p (.list [.ref e,.ref r])) p e r x:=by
 erw[aD (bo hr),(a d),aD (bo j),(i g),aD (bo i),(b f),<-⟨⟨b,h,a⟩,Ext.fresh (Ext.fresh (Ext.fresh Ext.refl h) a) b,⟨us,ae (aJ f) (ae (aJ d) us),ae (aJ g) us⟩⟩]
theorem zl{H:Hp}{t':Tr}{x:En}(h:Pr H t'.p t'.e t'.r x):tR H (g.twin t' x) t':=by
 erw[FX (Kw (g:=g) (x:=x) h.ne),(c b i a f d),<-⟨c,h.p,b,a.symm⟩]
theorem A_(R:Rd af w K)(I:Inv nz pl ga ka wa t H g)(P:gu H g pl ts)(W:j<ts.length)(U:y<2^39)(l:aB 8 n=true)(q:∀H' g',Inv nz pl ga ka wa t H' g'->Q (.bool true) H'):aY af w K n 932 [.ref pl,.int (j:Int),.int (y:Int)] H Q X:=by
 erw[R.wA.to rfl l,(n l),fc (oa P W),(z QT _ hz u)];have jl:=P.len;have O:(aT (ts.map (·.p))).length<=100000:=by rw[bG,aq];exact dK jl rfl
 have h2:([V.ref z.e,.ref z.r]:List V).length<=100000:=dc rfl;have Q9:y%4<=3:=by exact Np
 erw[aD (u.pr I.cells),(A gd),Zg,Zf rfl rfl,aw P.h O (fh hz)];have a:∀(s:Hp)(m:Gh),Inv nz pl ga ka wa t s m->gu s m pl ts->tR s m z->jI (m.en z.e)->bO af w K aG n [.bq 4 (bD 418 [(bw dP 0)]),.dm (.cmp .NotEq fB (bD 797 [(bw dP 1)])) [dj (.cst (.bool false))] [],.bq 5 (.lst [(bD 425 [fB]),(.call .list [(bw dP 1)])]),.expr (bD 811 [fG,(.bin .Mod dB (ek 4)),(.bin .FloorDiv dB (ek 4))]),.hK aN bA fG,dj (.and [(bD 832 [fG]),(bD 832 [dP])])] (upd (sr ([.ref pl,.int (j:Int),.int (y:Int)]++[])) 3 (.ref z.p)) s (dE Q) (cG X):=λs m L P1 M B=>by
  erw[aD (M.pr L.cells),(v F)];generalize m.en z.e=x at v F B;have h4:x.vs.length<=1000:=dc rfl;erw[Zg,Zq,Za,Zf rfl rfl,aw v.p h2 rfl,Zb,<-jb R v.e F.b (lv l rfl) (λ_=>?_) (λz=>absurd F.i z),Zh,ZH,Zc rfl,Zq,Za,Zf rfl rfl,aw v.p h2 rfl,Zb,mw R v.r F.i F.b.d (lv l rfl),pO,Zi,Ze,Zd,Zg,eP rfl,Za,Zz rfl,<-lE R F.i F.b.d (lv l rfl) (λ_ e Y=>?_) (λz=>absurd B z)];have N:Ext s (upd s e x.o):=Ext.fresh Ext.refl Y;erw[Za,Z6,Za,Zf rfl rfl,aw (N _ _ v.p) h2 rfl,Zb,pI (N _ _ v.r) h4,(r hr),Zb,(p hp),cA (CL (c:=λ_=>x.o) Y hr hp),(fr ex Lm)];have D:=L.twin fr ex Lm F;have T:=zl (g:=m) (t':=⟨p,e,r⟩) Lm;have S:bJ (λn=>n=1\/n=3\/n=6) s m _ (m.twin ⟨p,e,r⟩ x):=.twin L.claim fr ex (dc rfl);have P2:=P1.keep S;have z2:=M.keep S (.inl rfl) (.inr (.inl rfl));erw[Zk,Zq,Zr rfl,Za,Zs rfl rfl,dI (y:=4) rfl,Za,Zs rfl rfl,dS (y:=4) rfl (iM U).big rfl,Zb,pE R D T Q9 (vY U 4) (lv l rfl),(k I3)];have C:=P2.put (x:=k) (y':=.list k.vs) (z':=k.o) D.cells T.e;have z3:=z2.put (x:=k) (y':=.list k.vs) (z':=k.o) D.cells T.e;have T3:=T.put (x:=k) (y':=.list k.vs) (z':=k.o) D.cells T.e;erw[ZK,Zc rfl,Zc rfl,Zc rfl,i_ C.h O ir (by rw[bG,aq];exact Ye W)];rw[aL,EU];have es:(ts.map (·.p)).set j p=(ts.set j ⟨p,e,r⟩).map (·.p):=by refine' aj Hh ?_;rfl
  erw[aj es];have J:=I3.HQ C T3 j;erw[aD ((T3.off (by erw[aj C.r];decide)).pr J.cells),(G gA),aD ((z3.off (by erw[aj C.r];decide)).pr J.cells),(E gB),Zt,ZY,Zz rfl,oj R G gA (lv l rfl),Zx,Zp,Zz rfl,oj R E gB (lv l rfl),<-bH Ext.refl (q _ _ J)]
 have h4:(g.en z.e).vs.length<=100000:=dc rfl;erw[Zh,ZR,Zn,Zy rfl,Zo rfl,Zf rfl rfl,aw A.p h2 rfl,aw A.r h4 rfl,<-v7 (λh0=>?_) (λh0=>?_)]
 ·erw[Z0,Zi,Ze,Zd,<-a H g I P u (.inl h0)]
 ·erw[Zp,Zn,Zy rfl,Zo rfl,Zf rfl rfl,aw A.p h2 rfl,aw A.r h4 rfl,<-v7 (λh1=>?_) (λh1=>?_)]
  ·erw[Z0,Zi,Ze,Zd,<-a H g I P u (.inr h1)]
  ·erw[Zp,ZD,Zp,Zk,Zq,Zr rfl,Zr rfl,Za,Zv rfl,Zs rfl rfl,dI (y:=2) rfl,<-⟨du (by rw[cT];exact aZ k_ (dc rfl)),du (dc rfl),?_⟩,Zb];have hm2:y%2<2:=k_;erw[mG R (f:=2) A (dc rfl) (lv l rfl)];have hv:rE (((y%2:Nat):Int)*2):=⟨by exact VL,by exact Vo⟩;have gx:=gd.d6 2 hv;erw[aj u.r];have B:jI ((g.put z.e ((g.en z.e).d6 2 (((y%2:Nat):Int)*2))).en z.e):=by
    have e:(g.put z.e ((g.en z.e).d6 2 (((y%2:Nat):Int)*2))).en z.e=(g.en z.e).d6 2 (((y%2:Nat):Int)*2):=if_pos rfl;erw[aj e,<-(Nat.mod_two_eq_zero_or_one y).elim (λh=>.inl (by rw[h];rfl)) λh=>.inr (by rw[h];rfl)]
   erw[Ze,Zd,<-a _ _ (I.put u.e gx) (P.put I.cells u.e) (u.put I.cells u.e) B]
theorem Jq(R:Rd af w K)(I:Inv nz pl ga ka wa t H g)(P:gu H g pl ts)(N:j<ts.length)(k:y<2^39)(a:aB 8 n=true)(q:∀H' g',Inv nz pl ga ka wa t H' g'->Q (.bool true) H'):aY af w K n 939 [.ref pl,.int (j:Int),.int (y:Int)] H Q X:=by
 erw[R.EP.to rfl a,(n a),fc (oa P N),(z QT _ hz E)];have jl:=P.len;have J:(aT (ts.map (·.p))).length<=100000:=by rw[bG,aq];exact dK jl rfl
 have h2:([V.ref z.e,.ref z.r]:List V).length<=100000:=dc rfl;have Q9:y%4<=3:=by exact Np
 have B:y / 4%4<=3:=by exact Np
 erw[aD (E.pr I.cells),(f F)];generalize hx:g.en z.e=x at f F;have h4:x.vs.length<=1000:=dc rfl;have C:=f.e;unfold En.o at C;erw[Zg,Zf rfl rfl,aw P.h J (fh hz),Zg,eP rfl,Za,Zm,Zf rfl rfl,aw f.p h2 rfl,bC C rfl,Zb,bt C rfl,oQ R f.e (lv a rfl),(e S)];have G:Ext H (upd H e x.o):=Ext.fresh Ext.refl S;erw[Za,Z6,Za,Zf rfl rfl,aw (G _ _ f.p) h2 rfl,Zb,pI (G _ _ f.r) h4,(r hr),Zb,(p hp),cA (CL (c:=λ_=>x.o) S hr hp),(U W L)];have m:=I.twin U W L F;have T:=zl (g:=g) (t':=⟨p,e,r⟩) L;have M:bJ (λn=>n=1\/n=3\/n=6) H g _ (g.twin ⟨p,e,r⟩ x):=.twin I.claim U W (dc rfl);have P2:=P.keep M;have z2:=E.keep M (.inl rfl) (.inr (.inl rfl));erw[Zg,Zz rfl,mU R L F (lv a rfl),Zk,Zq,Zr rfl,Za,Zs rfl rfl,dI (y:=4) rfl,Za,Zs rfl rfl,dS (y:=4) rfl (iM k).big rfl,Zb,pE R m T Q9 (vY k 4) (lv a rfl),(b i)];have P3:=P2.put (x:=b) (y':=.list b.vs) (z':=b.o) m.cells T.e;have d:=z2.put (x:=b) (y':=.list b.vs) (z':=b.o) m.cells T.e;have T3:=T.put (x:=b) (y':=.list b.vs) (z':=b.o) m.cells T.e;erw[aD (T3.pr i.cells),(A gA),aD (d.pr i.cells),(v gB),Zg,Zal,Zc rfl,Zx,Zp,ZY,Zz rfl,oj R A gA (lv a rfl),Zx,Zp,Zz rfl,mU R v gB (lv a rfl),Zk,Zq,Zr rfl,Za,Zv rfl,Zs rfl rfl,dS (y:=4) rfl (iM k).big rfl,dI (y:=4) rfl,Za,Zs rfl rfl,dS (y:=16) rfl (iM k).big rfl,Zb,pE R i d B (vY k 16) (lv a rfl),(O I4)];have l:=P3.put (x:=O) (y':=.list O.vs) (z':=O.o) i.cells d.e;have z4:=d.put (x:=O) (y':=.list O.vs) (z':=O.o) i.cells d.e;have Y:=T3.put (x:=O) (y':=.list O.vs) (z':=O.o) i.cells d.e;erw[ZK,Zc rfl,Zc rfl,Zc rfl,i_ l.h J ir (by rw[bG,aq];exact Ye N)];rw[aL,EU];have es:(ts.map (·.p)).set j p=(ts.set j ⟨p,e,r⟩).map (·.p):=by refine' aj Hh ?_;rfl
 erw[aj es];have D:=I4.HQ l Y j;erw[aD ((Y.off (by erw[aj l.r];decide)).pr D.cells),(u gC),aD ((z4.off (by erw[aj l.r];decide)).pr D.cells),(s gD),Zt,Zal,Zc rfl,Zx,Zp,ZY,Zz rfl,oj R s gD (lv a rfl),Zx,Zp,Zz rfl,oj R u gC (lv a rfl),<-bH Ext.refl (q _ _ D)]
end
theorem Cells.keep(C:Cells H g)(k:bJ (λn=>1<=n/\n<=5) H g H' g')(q:∀a,1<=g.R a->g.R a<=5->g'.en a=g.en a)(o:∀a,1<=g'.R a->g'.R a<=5->g.R a=g'.R a):Cells H' g':=by
 refine⟨λe hr=>?_,λp b=>?_⟩
 ·have c:=o e (hr.elim (λl=>dJ [(zn 1,av)] (zn 1,av) rt (aa (ao l))) (λl=>dJ [(zn 4,av)] (zn 1,av) rt (aa (ao l)))) (hr.elim (λG=>dJ [(av,zn 1)] (av,zn 5) rt (aa G)) (λG=>dJ [(av,zn 4)] (av,zn 5) rt (aa G)));rw[<-c] at hr;erw[iu (C.ent e hr),(d j f t s)];have s1:1<=g.R e/\g.R e<=5:=by exact⟨hr.elim (λF=>dJ [(zn 1,av)] (zn 1,av) rt (aa (ao F))) (λF=>dJ [(zn 4,av)] (zn 1,av) rt (aa (ao F))),hr.elim (λL=>dJ [(av,zn 1)] (av,zn 5) rt (aa L)) (λL=>dJ [(av,zn 4)] (av,zn 5) rt (aa L))⟩
  have s2:1<=g.R (g.mt e)/\g.R (g.mt e)<=5:=by exact⟨fe [(zs av,aW)] (zn 1,aW) rt (aa (ao f)),hr.elim (λM=>fe [(av,zs aW),(aW,zn 1)] (av,zn 5) rt (aa f) (aa M)) (λM=>fe [(av,zs aW),(aW,zn 4)] (av,zn 5) rt (aa f) (aa M))⟩
  erw[aj (k.m e s1),aj (q e s1.1 s1.2),c_ c,aj (k.r _ s2),aj (k.m _ s2),<-⟨k.h _ _ s1 d,k.h _ _ s2 j,f,t,s⟩]
 ·have i:=o p (dJ [(zn 3,av)] (zn 1,av) rt (aa (ao b))) (zwb b rfl);rw[<-i] at b;erw[ay (C.pr p b),(e d j)];have s1:1<=g.R e/\g.R e<=5:=by exact⟨dJ [(zn 1,av)] (zn 1,av) rt (aa (ao d)),dJ [(av,zn 1)] (av,zn 5) rt (aa d)⟩
  exact⟨e,(k.r e s1).trans d,by erw[aj (k.m e s1),<-k.h _ _ (⟨dJ [(zn 3,av)] (zn 1,av) rt (aa (ao b)),dJ [(av,zn 3)] (av,zn 5) rt (aa b)⟩) j]⟩
theorem Cells.off{y:MO}(C:Cells H g)(n:5<g.R a):Cells (upd H a y) g:=C.keep (.upd (λK=>cH [(zs (zn 5),av),(av,zn 5)] rt n K.2)) (λ_ _ _=>rfl) λ_ _ _=>rfl
theorem Inv.xA(I:Inv nz pl ga ka wa t H g)(k:bJ (λn=>1<=n/\n<=14) H g H' g')(p:g'.en=g.en)(r:∀a,g'.R a=g.R a\/13<g'.R a\/g'.R a=0)(C:Claim H' g')(l:t<=t')(m:∃A h s rej i,A.gl=ga/\i5 H' g' 20 A h s rej i/\jv h s i A.tr t'):Inv nz pl ga ka wa t' H' g':=by
 erw[iB I.wait,(B o u e2 w q),df I.cmd,(D c e3 j v),bf I.yY,(ts P),<-⟨I.cells.keep (k.sub λn h=>by exact Sy h) (λa _ _=>by erw[aj p];rfl) (λa h1 h2=>?_),C,⟨ts,P.keep (k.sub λn h=>by exact WW h)⟩,m,⟨D,c,e3,j.keep (k.sub λn h=>by exact⟨h.elim (λe=>dJ [(zn 11,av)] (zn 1,av) rt (aa (ao e))) (λe=>e.elim (λF=>dJ [(zn 12,av)] (zn 1,av) rt (aa (ao F))) (λF=>dJ [(zn 13,av)] (zn 1,av) rt (aa (ao F)))),h.elim (λG=>dJ [(av,zn 11)] (av,zn 14) rt (aa G)) (λG=>G.elim (λf=>dJ [(av,zn 12)] (av,zn 14) rt (aa f)) (λf=>dJ [(av,zn 13)] (av,zn 14) rt (aa f)))⟩),v⟩,⟨B,o,u,e2,w.keep (k.sub λn h=>by unfold sW at h;exact⟨h.elim (λb=>dJ [(zn 4,av)] (zn 1,av) rt (aa (ao b))) (λb=>dJ [(zn 7,av)] (zn 1,av) rt b.1),h.elim (λd=>dJ [(av,zn 4)] (av,zn 14) rt (aa d)) (λd=>dJ [(av,zn 10)] (av,zn 14) rt d.2)⟩),⟨?_,?_,?_⟩⟩,I.num.keep (k.sub λn h=>by exact Xu h)⟩]
 ·rcases r a with h|h|h
  ·exact h.symm
  ·exact aS ((cH [(zs (zn 13),av),(av,zn 5)] rt h h2).elim) ((cH [(zs (zn 13),av),(av,zn 5)] rt h h2).elim)
  ·exact aS ((cH [(zn 1,av),(av,zn 0)] rt h1 (aa h)).elim) (fe [(av,zn 0)] (av,aW) rt (aa h))
 ·have:=q.lo;exact gF [(zn 110,zp av aW),(aW,bT)] (zn 110,zp av bT) rt this l
 ·have:=q.hi;exact gF [(av,zp (zn 144115188075855872) (zm 100 aW)),(zm 100 aW,zm 100 bT)] (av,zp (zn 144115188075855872) (zm 100 bT)) rt this (aP 100 l)
 ·have:=q.len;exact gF [(av,zm 2 aW),(zm 2 aW,zm 2 bT)] (av,zm 2 bT) rt this (aP 2 l)
theorem i5.say(f:10<=b)(x:i5 H g b A h sn rej cj):i5 (upd (upd H A.nu (.list (hl h'))) A.m (dD h' A.me (yN A.sa) rej cj)) g b A h' sn rej cj:=by
 rcases x with⟨a1,a2,a3,a4,a5,a6,a7,r1,r2,r3,r4,r5,r6⟩
 have st:∀a n d,g.R a=n->n≠b+1->n≠b+2->H a=some d->(upd (upd H A.nu (.list (hl h'))) A.m (dD h' A.me (yN A.sa) rej cj)) a=some d:=λa n d e j i q=>
  ae (λz=>j (c_ e (aj z (aj r2 rfl)))) (ae (λz=>i (c_ e (aj z (aj r3 rfl)))) q)
 refine⟨st _ _ _ r1 Y4 Xp a1,us,ae (bX r3 r2 (nN rfl)) us,st _ _ _ r4 (nN rfl) (nN rfl) a4,st _ _ _ r5 (nN rfl) (nN rfl) a5,λt c=>⟨(a6 t c).p,st _ _ _ (a6 t c).p (λe=>cH [(zn 10,av),(zs av,zn 3)] rt f (aa (ao e))) (λe=>cH [(zn 10,av),(zk av 2,zn 3)] rt f (aa (ao e))) (a6 t c).h,(a6 t c).e,(a6 t c).r⟩,?_,r1,r2,r3,r4,r5,r6⟩;have k:bJ (λn=>b+5<=n/\n<=b+10) H g (upd (upd H A.nu (.list (hl h'))) A.m (dD h' A.me (yN A.sa) rej cj)) g:=(bJ.upd (aj r3 (λo=>cH [(zk av 5,zk av 2)] rt o.1))).trans (bJ.upd (aj r2 (λG=>cH [(zk av 5,zs av)] rt G.1)));exact a7.keep k (λn l u=>⟨l,u⟩) r6
section
variable{G:Hp}
theorem vX(R:Rd af w K)(d:10<=b)(x:i5 H g b A h sn rej cj)(c:f<=7)(a:aB 0 n=true)(q:i5 (upd (upd H A.nu (.list (hl (hM h f v)))) A.m (dD (hM h f v) A.me (yN A.sa) rej cj)) g b A (hM h f v) sn rej cj->Q .none (upd (upd H A.nu (.list (hl (hM h f v)))) A.m (dD (hM h f v) A.me (yN A.sa) rej cj))):aY af w K n 885 [.ref A.gl,.int (f:Int),.int v] H Q X:=
 Nm R c x.hg x.hm x.hu (bX x.rg x.Fc Xp) a (q (x.say d))
theorem Mz(h:Nat->Int)(a:f<8):(hl h)[f]?=some (.int (h f)):=by
 refine Vx a ?_ ?_ ?_ ?_ ?_ ?_ ?_ ?_
 ·rfl
 ·rfl
 ·rfl
 ·rfl
 ·rfl
 ·rfl
 ·rfl
 ·rfl
theorem OV(h:Nat->Int)(f:Nat)(v:Int):hM h f v f=v:=if_pos rfl
theorem sO{P:Int->Prop}(a:∀j,j<8->P (h j))(b:P v):∀j,j<8->P (hM h f v j):=λj c=>by
 unfold hM
 split
 ·exact b
 ·exact a j c
theorem J8:hM (hM h f v) f u=hM h f u:=funext λj=>by
 unfold hM
 split<;>rfl
theorem bJ.say{A:CK}(h2:g.R A.nu=b+2)(h1:g.R A.m=b+1)(n:¬s (b+2))(a:¬s (b+1)):bJ s H g (Mine.upd (Mine.upd H A.nu y') A.m z') g:=
 (bJ.upd (aj h2 n)).trans (bJ.upd (aj h1 a))
theorem i5.big{C:Cells H g}(x:i5 H g b A h sn rej cj)(p:jv h sn cj A.tr t):uP h (A.tr.map λt=>g.en t.e) sn cj:=p.ok C λy a=>(x.ht y a).e
theorem EZ(R:Rd af w K)(I:Inv nz pl ga ka wa t H g)(hy:y<2^39)(o:aB 10 n=true)(q:∀P g',Inv nz pl ga ka wa t P g'->Q (.bool true) P):aY af w K n 946 [.ref ga,.int (y:Int)] H Q X:=by
 erw[R.z9.to rfl o,(n o),iN I.msg,(A h sn d f eI M p)];subst eI;have h6:∀r c,(A.gv r c).length<=100000:=λr c=>by show 6<=100000;decide
 have h8:(hl h).length<=100000:=dc rfl;have Uy:=vY hy 10;have ab4:y%10<10:=k_;have Og:A.m≠A.gl:=bX M.rm M.rg (dc rfl);erw[Zg,Zs rfl rfl,dI (y:=10) rfl,Zg,Zs rfl rfl,dS (y:=10) rfl (iM hy).big rfl];have E:∀(O:Hp)(h1:Nat->Int)(r1:Bool)(Y:List UInt8)(ρ:Loc),bJ (λn=>1<=n/\n<=14) H g O g->Claim O g->i5 O g 20 A h1 sn r1 Y->jv h1 sn Y A.tr t->ρ 0=some (.ref A.gl)->bO af w K aG n [dj (bD 878 [aN])] ρ O (dE Q) (cG X):=λO h1 r1 Y ρ L cl x p1 r0=>by
  have I1:=I.xA L rfl (λ_=>.inl rfl) cl qt ⟨A,h1,sn,r1,Y,rfl,x,p1⟩;erw[Zt,<-Zz r0 ?_,tg R (x.mb I1.cells) (i5.big (C:=I1.cells) x p1) (lv o rfl),<-bH Ext.refl (q _ _ I1)]
 erw[Zh,Zj rfl rfl,<-cq (λe8=>?_) (λe8=>?_)]
 ·erw[Zp,ZK,Zar,Zf rfl rfl,aw M.hg (h6 _ _) rfl,Zx,Zc rfl,ZA,i_ M.hg (h6 _ _) (dc rfl) (dc rfl)];have N:(upd H A.gl (.list (A.gv (!d) f))) A.gl=some (.list (A.gv (!d) f)):=us;have J:=ae (b:=A.gl) (mo:=.list (A.gv (!d) f)) Og M.hm;have EY:=J;unfold dD at J;erw[Zu,Zf rfl rfl,aw N (h6 _ _) rfl,Zf rfl rfl,aw (v:=.ref A.m) N (h6 _ _) rfl,bQ J rfl rfl,Ze,Zd];have L:bJ (λn=>1<=n/\n<=14) H g (upd (upd H A.gl (.list (A.gv (!d) f))) A.m (dD h A.me (yN A.sa) (!d) f)) g:=(bJ.upd (by erw[aj M.rg];decide)).trans (bJ.upd (by erw[aj M.rm];decide));have k:bJ (λn=>n≠20/\n≠21) H g (upd (upd H A.gl (.list (A.gv (!d) f))) A.m (dD h A.me (yN A.sa) (!d) f)) g:=(bJ.upd (by erw[aj M.rg];decide)).trans (bJ.upd (by erw[aj M.rm];decide));refine E _ h (!d) f _ L I.claim.upd.upd ⟨ae (aJ Og) us,us,k.h _ _ (by erw[aj M.Fc];decide) M.hu,k.h _ _ (by erw[aj M.Jx];decide) M.h3,k.h _ _ (by erw[aj M.Ft];decide) M.he,λz hz=>(M.ht z hz).keep k (dc rfl) (dc rfl),M.hs.keep k (λn l u=>by exact Yg l) M.rs,M.rg,M.rm,M.Fc,M.Jx,M.Ft,M.rs⟩ p rfl
 ·erw[Zi,Zh,Zj rfl rfl,<-cq (λW=>?_) (λW=>?_)]
  ·erw[Zp,ZK,Zq,Za,Zf rfl rfl,aw M.hg (h6 _ _) rfl,ZF rfl,i9 R p.c (iM Uy) (lv o rfl),(D hc'),Zc rfl,ZA,i_ M.hg (h6 _ _) (dc rfl) (dc rfl)];have N:(upd H A.gl (.list (A.gv d D))) A.gl=some (.list (A.gv d D)):=us;have J:=ae (b:=A.gl) (mo:=.list (A.gv d D)) Og M.hm;unfold dD at J;erw[Zu,Zf rfl rfl,aw N (h6 _ _) rfl,Zf rfl rfl,aw (v:=.ref A.m) N (h6 _ _) rfl,bQ J rfl rfl,Ze,Zd,Zd];have L:bJ (λn=>1<=n/\n<=14) H g (upd (upd H A.gl (.list (A.gv d D))) A.m (dD h A.me (yN A.sa) d D)) g:=(bJ.upd (by erw[aj M.rg];decide)).trans (bJ.upd (by erw[aj M.rm];decide));have k:bJ (λn=>n≠20/\n≠21) H g (upd (upd H A.gl (.list (A.gv d D))) A.m (dD h A.me (yN A.sa) d D)) g:=(bJ.upd (by erw[aj M.rg];decide)).trans (bJ.upd (by erw[aj M.rm];decide));refine E _ h d D _ L I.claim.upd.upd ⟨ae (aJ Og) us,us,k.h _ _ (by erw[aj M.Fc];decide) M.hu,k.h _ _ (by erw[aj M.Jx];decide) M.h3,k.h _ _ (by erw[aj M.Ft];decide) M.he,λz hz=>(M.ht z hz).keep k (dc rfl) (dc rfl),M.hs.keep k (λn l u=>by exact Yg l) M.rs,M.rg,M.rm,M.Fc,M.Jx,M.Ft,M.rs⟩ ⟨p.hi,p.zv,p.len,p.so,by exact dK hc' rfl⟩ rfl
  ·have U:y%10<8:=by exact(pa e8).elim (λKo=>bb.mp (oG [(ys cN,yn 8)] (ys cN,yn 8) rt Ko)) (λKo=>(pa W).elim (λME=>A7 (λ_=>UW [(ys (yn 8),cN),(ys cN,yn 9)] rt Ko ME)) (λME=>A7 (λ_=>UW [(ys cN,yn 10),(ys (yn 9),cN)] rt (bb.mpr k_) ME)))
   erw[Zi,Zg,Zo rfl,Zf rfl rfl,aw M.hg (h6 _ _) rfl,aw M.hu h8 (fh (Mz h U)),xm R (iM Uy) (lv o rfl),(v hv hb),Zb,vX R (b:=20) (dc rfl) M (by exact WG e8 W) (lv o rfl),(x)];have kk:=λ(y' z':MO)=>bJ.say (H:=H) (y':=y') (z':=z') (s:=λn=>1<=n/\n<=14) M.Fc M.rm (dc rfl) (dc rfl);have C1:Cells _ g:=I.cells.keep ((kk (.list (hl (hM h (y%10) v))) (dD (hM h (y%10) v) A.me (yN A.sa) d f)).sub λn h=>by exact Sy h) (λ_ _ _=>rfl) λ_ _ _=>rfl;have b1:=x.mb C1;have T:=i5.big (C:=I.cells) M p;erw[Zh,ZP,Zab,Zr rfl,Za,Zf rfl rfl,aw (v:=.ref A.m) x.hg (h6 _ _) rfl,Zb,yQ R x.hm x.he b1.BL.OP b1.sn.OC ⟨sO (λj hj=>lh (p.hi j hj)) hb,T.big.xb,T.big.len,T.so,T.c⟩ (λi=>hv (by have:=i.hi _ U;rwa [OV] at this)) (lv o rfl)];have B:∀(u:Int),rE u->(y%10=0->u<=20)->∀ρ:Loc,ρ 0=some (.ref A.gl)->∀F:V->Hp->Prop,(∀P,bO af w K aG n [S.ret (some (bD 878 [aN]))] ρ P (dE Q) (cG X)->F .none P)->aY af w K n 885 [.ref A.gl,.int ((y%10:Nat):Int),.int u] (upd (upd H A.nu (.list (hl (hM h (y%10) v)))) A.m (dD (hM h (y%10) v) A.me (yN A.sa) d f)) F (cG X):=λu hu hu0 ρ r0 F hF=>by
    erw[vX R (b:=20) (dc rfl) x (by exact WG e8 W) (lv o rfl),(M2)];rw[J8] at M2⊢;rw[fw (a:=A.m) (b:=A.nu) (bX M.rm M.Fc (dc rfl)),bR,bR] at M2⊢;erw[hF _];exact E _ _ d f ρ (kk _ _) I.claim.upd.upd M2 ⟨sO p.hi hu,by
     unfold hM
     split
     ·rename_i e;exact hu0 e.symm
     ·exact p.zv,p.len,p.so,p.c⟩ r0
   erw[Zx,Zi,Ze,Zd,Zh,Zj rfl rfl,<-cq (λe0=>?_) (λe0=>?_)]
   ·have e0':y%10=0:=by exact Tt e0
    erw[Zp,Zk,Zq,Zr rfl,Zr rfl,Za,Zv rfl,ZC,Zs rfl rfl,Zw,Zs rfl rfl,dI (y:=20) rfl,Zw,ay (eJ (p.hi (y%10) U)),(hk G lhk)];have acb:hk<=20:=by
     have:=p.zv;rw[e0'] at G;exact ax.mp (oY [(cN,dW),(dW,yn 20)] (cN,yn 20) rt (aF (ao G)) this)
    erw[aj (show h (y%10)+1+((y / 10%20:Nat):Int)=((hk+1+y / 10%20:Nat):Int) by exact Vp G),dI (y:=21) rfl,Zb,<-B _ ⟨ir,by exact ax.mpr (dJ [(zs av,zn 21)] (av,zn 18446744073709551615) rt k_)⟩ (λ_=>by exact ax.mpr (dJ [(zs av,zn 21)] (av,zn 20) rt k_)) _ rfl _ λ_ h=>Ze (Zd (Ze (Zd (Ze (Zd h)))))]
   ·erw[Zi,Zk,Zq,Zr rfl,Zr rfl,Za,ZU rfl rfl,iy R (p.hi _ U) Uy (lv o rfl),(u hu),Zb,<-B _ ⟨ir,by exact oE hu⟩ (λz=>absurd (by exact XT z) e0) _ rfl _ λ_ h=>Ze (Zd (Ze (Zd (Ze (Zd h)))))]
end
noncomputable def Gh.set(g:Gh)(a:Addr)(n:Nat):Gh:={g with R:=λb=>if b=a then n else g.R b}
theorem gM:(g.set a n).R a=n:=if_pos rfl
theorem fp(h:b≠a):(g.set a n).R b=g.R b:=if_neg h
theorem bJ.set{H:Hp}{g:Gh}{n:Nat}(h:¬s (g.R a)):bJ s H g H (g.set a n):=
 ⟨λb k=>fp λe=>h (c_ e k),λ_ _=>rfl,λ_ _ _ h=>h⟩
theorem Claim.set{H:Hp}{g:Gh}{n:Nat}(C:Claim H g)(h:H a≠none):Claim H (g.set a n):=⟨λb k=>by
 by_cases e:b=a
 ·erw[aj e,<-h]
 ·rw[fp e] at k;exact C.c b k⟩
theorem i5.trs(w:10<=b)(x:i5 H g b A h sn rej cj)(v:∀t∈tr,tR H g t):
  i5 (upd (upd H A.me (.list (aT (tr.map (·.e))))) A.g3 (.list (aT (tr.map (·.p))))) g b {A with tr:=tr} h sn rej cj:=by
 rcases x with⟨a1,a2,a3,a4,a5,a6,a7,r1,r2,r3,r4,r5,r6⟩
 have k:bJ (λn=>n≠b+3/\n≠b+4) H g (upd (upd H A.me (.list (aT (tr.map (·.e))))) A.g3 (.list (aT (tr.map (·.p))))) g:=(bJ.upd (aj r5 (λC=>(ik C.1).elim (λy=>(ik C.2).elim (λG=>cH [(zs av,av)] rt G) (λG=>cH [(zs av,av)] rt G)) (λy=>(ik C.2).elim (λF=>cH [(zs av,av)] rt F) (λF=>cH [(zs av,av)] rt F))))).trans (bJ.upd (aj r4 (λz=>(ik z.1).elim (λs=>cH [(zs av,av)] rt s) (λs=>cH [(zs av,av)] rt s))));exact⟨k.h _ _ (aj r1 ⟨λK=>cH [(zk av 3,av)] rt (aa (ao K)),λL=>cH [(zk av 4,av)] rt (aa (ao L))⟩) a1,k.h _ _ (aj r2 ⟨λj=>cH [(zk av 3,zs av)] rt (aa (ao j)),λr=>cH [(zk av 4,zs av)] rt (aa (ao r))⟩) a2,k.h _ _ (aj r3 ⟨λq=>cH [(zk av 3,zk av 2)] rt (aa (ao q)),λf=>cH [(zk av 4,zk av 2)] rt (aa (ao f))⟩) a3,us,ae (bX r5 r4 (nN rfl)) us,λt h=>(v t h).keep k (⟨λa=>cH [(zk av 3,zn 1)] rt (aa (ao a)),λm=>cH [(zk av 4,zn 1)] rt (aa (ao m))⟩) (⟨λi=>cH [(zn 10,av),(zk av 3,zn 3)] rt w (aa (ao i)),λd=>cH [(zk av 4,zn 3)] rt (aa (ao d))⟩),a7.keep k (λn l u=>by exact⟨λo=>Gp [(zk av 5,aW),(aW,zk av 3)] rt l (aa o),λc=>Gp [(zk av 5,aW),(aW,zk av 4)] rt l (aa c)⟩) r6,r1,r2,r3,r4,r5,r6⟩
theorem i5.aag(x:i5 H g b A h sn rej cj)(k:bJ (λn=>n=1\/n=3\/(b<=n/\n<=b+4)) H g H' g)(s:tY H' A.sa E7):i5 H' g b A h E7 rej cj:=by
 rcases x with⟨a1,a2,a3,a4,a5,a6,a7,r1,r2,r3,r4,r5,r6⟩
 exact⟨k.h _ _ (aj r1 (.inr (.inr (⟨dJ [] (av,av) rt,dJ [] (av,zk av 4) rt⟩)))) a1,k.h _ _ (aj r2 (.inr (.inr (⟨dJ [] (av,zs av) rt,dJ [] (zs av,zk av 4) rt⟩)))) a2,k.h _ _ (aj r3 (.inr (.inr (⟨dJ [] (av,zk av 2) rt,dJ [] (zk av 2,zk av 4) rt⟩)))) a3,k.h _ _ (aj r4 (.inr (.inr (⟨dJ [] (av,zk av 3) rt,dJ [] (zk av 3,zk av 4) rt⟩)))) a4,k.h _ _ (aj r5 (.inr (.inr (⟨dJ [] (av,zk av 4) rt,dJ [] (zk av 4,zk av 4) rt⟩)))) a5,λt h=>(a6 t h).keep k (.inl rfl) (.inr (.inl rfl)),s,r1,r2,r3,r4,r5,r6⟩
section
variable{G:Hp}
theorem AH(l:List Addr)(i:Nat):(aT l).eraseIdx i=aT (l.eraseIdx i):=by
 unfold aT
 induction l generalizing i with
 |nil=>rfl
 |cons a l b=>
  induction i using Nat.casesOn with
  |zero=>rfl
  |succ i=>refine' aj dr ?_;refine' aj jT ?_;refine' aj jT ?_;refine' aj dr ?_;rw[b]
theorem B1(f:Tr->β)(l:List Tr)(i:Nat):(l.map f).eraseIdx i=(l.eraseIdx i).map f:=by
 induction l generalizing i with
 |nil=>rfl
 |cons a l b=>
  induction i using Nat.casesOn with
  |zero=>rfl
  |succ i=>refine' aj dr ?_;refine' aj jT ?_;refine' aj jT ?_;refine' aj dr ?_;rw[b]
theorem OO(R:Rd af w K)(I:Inv nz pl ga ka wa t H g)(m:tR H g z)(P:y<2^39)(o:aB 10 n=true)(q:∀G W,Inv nz pl ga ka wa t G W->Q (.bool true) G):aY af w K n 953 [.ref ga,.ref z.p,.int (y:Int)] H Q X:=by
 erw[R.qL.to rfl o,(n o),iN I.msg,(A h B d s Y M p)];subst Y;have h6:(A.gv d s).length<=100000:=dc rfl;have l:=p.len;have l3:(aT (A.tr.map (·.p))).length=A.tr.length:=by rw[bG,aq]
 have F:(aT (A.tr.map (·.e))).length=A.tr.length:=by rw[bG,aq]
 have h2:([V.ref z.e,.ref z.r]).length<=100000:=dc rfl;have b:=bX M.Jx M.Ft (dc rfl);have i:=bX M.rg M.Ft (dc rfl);have L:=bX m.p M.Ft (dc rfl);have E:=M.hm;unfold dD at E;have j:∀(a:List Tr)(ρ:Loc),(∀t∈a,tR H g t)->a.length<=5->ρ 0=some (.ref A.gl)->bO af w K aG n [dj (bD 878 [aN])] ρ (upd (upd H A.me (.list (aT (a.map (·.e))))) A.g3 (.list (aT (a.map (·.p))))) (dE Q) (cG X):=λa ρ S hl J=>by
  have v:=M.trs (dc rfl) S;have N:bJ (λn=>1<=n/\n<=14) H g (upd (upd H A.me (.list (aT (a.map (·.e))))) A.g3 (.list (aT (a.map (·.p))))) g:=(bJ.upd (aj M.Ft (dc rfl))).trans (bJ.upd (aj M.Jx (dc rfl)));have D:jv h B s a t:=⟨p.hi,p.zv,hl,p.so,p.c⟩;have x:=I.xA N rfl (λ_=>.inl rfl) I.claim.upd.upd qt ⟨{A with tr:=a},h,B,d,s,rfl,v,D⟩;erw[Zt,<-Zz J ?_,tg R (A:={A with tr:=a}) (v.mb x.cells) (i5.big (C:=x.cells) v D) (lv o rfl),<-bH Ext.refl (q _ _ x)]
 have k:A.tr.length<5->bO af w K aG n [.expr (.bp (.attr (bw aN 0) 15) 0 [(bw bA 0)]),.expr (.bp (bw aN 3) 0 [bA])] (sr ([.ref A.gl,.ref z.p,.int y]++[])) H (h_ af w K n [dj (bD 878 [aN])] (dE Q) (cG X)) (cG X):=λhl=>by
  erw[Zk,Zm,Z4,Zf rfl rfl,aw M.hg h6 rfl,aO E rfl rfl,<-oW M.he ⟨rfl,?_⟩,Za,Zf rfl rfl,aw m.h h2 rfl,Zb,qQ M.he (Xg hl F)];have e1:aT (A.tr.map (·.e))++[V.ref z.e]=aT ((A.tr++[z]).map (·.e)):=by unfold aT;refine' aj aX ?_;refine' aj aX ?_;rfl
  have e2:aT (A.tr.map (·.p))++[V.ref z.p]=aT ((A.tr++[z]).map (·.p)):=by unfold aT;refine' aj aX ?_;refine' aj aX ?_;rfl
  erw[aj e1,Zk,Zm,Zf rfl rfl,aw (ae i M.hg) h6 rfl,<-oW (ae b M.h3) ⟨rfl,?_⟩,ZF rfl,qQ (ae b M.h3) (Xg hl l3),aj e2,Ze,Zd,<-j _ _ (λu hu=>?_) (aj ah (aj aV (dJ [(zs av,zn 5)] (zs av,zn 5) rt hl))) rfl];rcases cC.mp hu with hu|hu
  ·exact M.ht u hu
  ·erw[aj (aR.mp hu),<-m]
 have f:0<A.tr.length->bO af w K aG n [.bq 3 (.bin .Mod (.bin .FloorDiv dB (ek 2)) (.call .len [(bw aN 3)])),.expr (.bp (.attr (bw aN 0) 15) 1 [dP]),.expr (.bp (bw aN 3) 1 [dP])] (sr ([.ref A.gl,.ref z.p,.int y]++[])) H (h_ af w K n [dj (bD 878 [aN])] (dE Q) (cG X)) (cG X):=λhl=>by
  have O:y / 2%A.tr.length<A.tr.length:=fP _ hl;erw[Zg,ZC,Zs rfl rfl,dS rfl (iM P).big rfl,ZN,Za,Zf rfl rfl,aw M.hg h6 rfl,Zb,dV M.h3 (lK l3 l rfl),aj l3,dI (d3.mpr hl),Zk,Zm,Z4,Zf rfl rfl,aw M.hg h6 rfl,aO E rfl rfl,<-oW M.he ⟨rfl,?_⟩,ZF rfl];have U:(aT (A.tr.map (·.e)))[((y / 2%A.tr.length:Nat):Int).toNat]?=some (.ref (A.tr[y / 2%A.tr.length]).e):=by
   rw[aL];exact jL (by erw[aj (cP),aj (bx O)];rfl)
  have T:(aT (A.tr.map (·.p)))[((y / 2%A.tr.length:Nat):Int).toNat]?=some (.ref (A.tr[y / 2%A.tr.length]).p):=by
   rw[aL];exact jL (by erw[aj (cP),aj (bx O)];rfl)
  erw[Qw M.he (lK F l rfl) ir U];rw[aL,AH,B1];erw[Zk,Zm,Zf rfl rfl,aw (ae i M.hg) h6 rfl,<-oW (ae b M.h3) ⟨rfl,?_⟩,ZF rfl,Qw (ae b M.h3) (lK l3 l rfl) ir T];rw[aL,AH,B1];erw[Ze,Zd,<-j _ _ (λu hu=>M.ht u (List.mem_of_mem_eraseIdx hu)) (by erw[aj List.length_eraseIdx];split<;>first|exact l|exact aH (iW _ _) l) rfl]
 erw[Zh,ZT,Zn,Zy rfl,ZN,Za,Zf rfl rfl,aw M.hg h6 rfl,Zb,dV M.h3 (lK l3 l rfl),aj l3,<-cq (λe=>?_) (λe=>?_)]
 ·erw[Z2,Zp,<-k (dJ [(av,zn 0)] (zs av,zn 5) rt (aa (gZ e)))]
 ·erw[ZM,Zn,ZR,Zn,Zy rfl,Zs rfl rfl,dI rfl,<-cq (λe2=>?_) (λe2=>?_)]
  ·erw[Zp,Zn,Zy rfl,ZN,Za,Zf rfl rfl,aw M.hg h6 rfl,Zb,dV M.h3 (lK l3 l rfl),aj l3,<-fC (λe4=>?_) (λe4=>?_)]
   ·erw[Zan,ZD,Z2,Zp,<-k (dJ [(zs av,zn 4)] (zs av,zn 5) rt (bb.mp e4))]
   ·erw[Z0,ZM,ZD,Zi,<-f (Y3 e)]
  ·erw[Z0,ZM,ZD,Zi,<-f (Y3 e)]
end
noncomputable def Gh.sets(g:Gh)(l:List (Addr×Nat)):Gh:=l.foldl (λg x=>g.set x.1 x.2) g
theorem bJ.sets{H:Hp}:∀(l:List (Addr×Nat)) {g:Gh},(∀x∈l,¬s (g.R x.1))->(∀x∈l,¬s x.2)->bJ s H g H (g.sets l)
 |[],_,_,_=>.ext .refl
 |x::l,g,h,k=>(bJ.set (h x j4)).trans (bJ.sets l (λy a=>by
   by_cases e:y.1=x.1
   ·erw[aj e,aj gM,<-k x j4]
   ·erw[aj (fp e)];exact h y (fR a)) λy a=>k y (fR a))
theorem Claim.sets{H:Hp}:∀(l:List (Addr×Nat)) {g:Gh},Claim H g->(∀x∈l,H x.1≠none)->Claim H (g.sets l)
 |[],_,C,_=>C
 |x::l,_,C,h=>Claim.sets l (C.set (h x j4)) λy a=>h y (fR a)
theorem vq:∀(l:List (Addr×Nat)) {g:Gh},(g.sets l).R a=g.R a\/∃x∈l,(g.sets l).R a=x.2
 |[],_=>.inl rfl
 |x::l,g=>by
  rcases vq l with h|⟨y,b,h⟩
  ·by_cases e:a=x.1
   ·exact .inr ⟨x,j4,h.trans (aj e (aj gM rfl))⟩
   ·exact .inl (h.trans (fp e))
  ·exact .inr ⟨y,fR b,h⟩
theorem El:∀(l:List (Addr×Nat)) {g:Gh},(∀x∈l,a≠x.1)->(g.sets l).R a=g.R a
 |[],_,_=>rfl
 |x::l,g,h=>(El l λy b=>h y (fR b)).trans (fp (h x j4))
theorem BM:∀(l:List (Addr×Nat)) {g:Gh},(∀x∈l,x.1=a->x.2=r)->g.R a=r->(g.sets l).R a=r
 |[],_,_,h=>h
 |x::l,g,k,h=>BM l (λy b=>k y (fR b)) (by
   by_cases e:a=x.1
   ·erw[aj e,aj gM,<-k x j4 e.symm]
   ·erw[aj (fp e)];exact h)
theorem zz:∀(l:List (Addr×Nat)) {g:Gh},l.Pairwise (λx y=>y.1=x.1->y.2=x.2)->∀x∈l,(g.sets l).R x.1=x.2
 |[],_,_,_,h=>nomatch h
 |x::l,g,p,y,hy=>by
  erw[aD (List.pairwise_cons.mp p),(b a)];rcases bE.mp hy with h|h
  ·subst h;exact BM l (λz c=>b z c) gM
  ·exact zz l a y h
theorem Dd(l:List (Addr×Nat)):∀{g:Gh},(g.sets l).en=g.en:=by
 induction l with
 |nil=>intro _;rfl
 |cons x l i=>exact i
noncomputable def Oj(b:Nat)(z:xn):List (Addr×Nat):=[(z.sl,b+5),(z.s2,b+6),(z.a,b+7),(z.A.c,b+8),(z.A.v,b+9),(z.A.l,b+10),(z.A.o,b+10),(z.A.n,b+10)]
theorem TX(b:Nat)(z:xn):∀x∈Oj b z,b+5<=x.2/\x.2<=b+10:=by
 have h:∀{k:Nat} {a:Addr},5<=k/\k<=10->b+5<=(a,b+k).2/\(a,b+k).2<=b+10:=λu=>⟨cV u.1 b,cV u.2 b⟩;exact aK (h (dc rfl)) (aK (h (dc rfl)) (aK (h (dc rfl)) (aK (h (dc rfl)) (aK (h (dc rfl)) (aK (h (dc rfl)) (aK (h (dc rfl)) (aK (h (dc rfl)) fK)))))))
noncomputable def snE(b:Nat)(a:Addr)(A:BE):List (Addr×Nat):=[(a,b+7),(A.c,b+8),(A.v,b+9),(A.l,b+10),(A.o,b+10),(A.n,b+10)]
theorem Bf.pw(h:Bf H a A s)(f:s.ids≠[])(b:Nat):(snE b a A).Pairwise (λx y=>y.1=x.1->y.2=x.2):=by
 rcases h with⟨a3,a4⟩
 rcases a4 with⟨c1,c2,c3,c4,c5⟩
 have d:iv s.ids≠iv []:=λe=>f (List.map_eq_nil_iff.mp e);have c:∀{x y:Addr} {p q:MO},H x=some p->H y=some q->p≠q->y=x->False:=λp q n e=>fQ p q n e.symm;unfold snE;refine .cons ?_ (.cons ?_ (.cons ?_ (.cons ?_ (.cons ?_ (.cons ?_ .nil)))))
 ·exact aK (λe=>(c a3 c1 (λq=>by cases q) e).elim) (aK (λe=>(c a3 c2 (λq=>by injection q) e).elim) (aK (λe=>(c a3 c3 (λq=>by injection q) e).elim) (aK (λe=>(c a3 c4 (λq=>by injection q) e).elim) (aK (λe=>(c a3 c5 (λq=>by injection q) e).elim) fK))))
 ·exact aK (λe=>(c c1 c2 (λq=>by injection q) e).elim) (aK (λe=>(c c1 c3 (λq=>by injection q) e).elim) (aK (λe=>(c c1 c4 (λq=>by injection q) e).elim) (aK (λe=>(c c1 c5 (λq=>by injection q) e).elim) fK)))
 ·have nl:MO.list (iv s.ids)≠.list (iv []):=λq=>d (by injection q);exact aK (λe=>(c c2 c3 nl e).elim) (aK (λe=>(c c2 c4 nl e).elim) (aK (λe=>(c c2 c5 nl e).elim) fK))
 ·exact aK (λ_=>rfl) (aK (λ_=>rfl) fK)
 ·exact aK (λ_=>rfl) fK
 ·exact fK
theorem nM.pw{H:Hp}(h:nM H z s)(f:YV H0 z.a z.A)(g:H0 z.sl≠none)(k:H0 z.s2≠none)(C:s.ids≠[])(b:Nat):(Oj b z).Pairwise (λx y=>y.1=x.1->y.2=x.2):=by
 rcases h with⟨a1,a2,sh⟩
 erw[FX ⟨f.o,f.co.c,f.co.v,f.co.l,f.co.o,f.co.n⟩,(B w u t r m)];have d:∀{x y:Addr},H0 x≠none->H0 y=none->y=x->False:=λp q e=>p (c_ e q);refine .cons ?_ (.cons ?_ (sh.pw C b))
 ·erw[<-aK (λe=>?_) (aK (λe=>(d g B e).elim) (aK (λe=>(d g w e).elim) (aK (λe=>(d g u e).elim) (aK (λe=>(d g t e).elim) (aK (λe=>(d g r e).elim) (aK (λe=>(d g m e).elim) fK)))))),<-(fQ a1 a2 (λq=>?_) e.symm).elim];injection q with q
  have q:=congrArg (λl:List V=>l[2]?) q;unfold iv at q;rw[cP] at q;cases j:s.ids[2]? with
  |none=>rw[j] at q;injection q
  |some i=>rw[j] at q;cases q
 ·exact aK (λe=>(d k B e).elim) (aK (λe=>(d k w e).elim) (aK (λe=>(d k u e).elim) (aK (λe=>(d k t e).elim) (aK (λe=>(d k r e).elim) (aK (λe=>(d k m e).elim) fK)))))
theorem ll.of(p:(Oj b z).Pairwise (λx y=>y.1=x.1->y.2=x.2)):ll (g.sets (Oj b z)).R b z:=
 have m:=zz (Oj b z) p
 ⟨m (z.sl,b+5) j4,m (z.s2,b+6) (fR j4),m (z.a,b+7) (fR (fR j4)),m (z.A.c,b+8) (fR (fR (fR j4))),m (z.A.v,b+9) (fR (fR (fR (fR j4)))),
  m (z.A.l,b+10) (fR (fR (fR (fR (fR j4))))),m (z.A.o,b+10) (fR (fR (fR (fR (fR (fR j4)))))),m (z.A.n,b+10) (fR (fR (fR (fR (fR (fR (fR j4)))))))⟩
section
variable{G:Hp}
theorem nM.row(r:ll g.R b z)(h:nM H z s)(e1:s'.ids=s.ids)(e2:s'.u=s.u):nM (upd (upd H z.sl (.list (s'.vs z.s2))) z.a (s'.O z.A.c)) z s':=by
 have st:∀x n m,g.R x=n->n≠b+5->n≠b+7->H x=some m->(upd (upd H z.sl (.list (s'.vs z.s2))) z.a (s'.O z.A.c)) x=some m:=λx n m e f d q=>
  ae (λz=>d (c_ e (aj z (aj r.a rfl)))) (ae (λz=>f (c_ e (aj z (aj r.sl rfl)))) q)
 rcases h with⟨a1,a2,⟨a3,⟨c1,c2,c3,c4,c5⟩⟩⟩
 refine⟨ae (bX r.sl r.a (nN rfl)) us,?_,⟨us,⟨?_,?_,st _ _ _ r.l (nN rfl) (nN rfl) c3,st _ _ _ r.o (nN rfl) (nN rfl) c4,st _ _ _ r.n (nN rfl) (nN rfl) c5⟩⟩⟩
 ·erw[aj e1,<-st _ _ _ r.s2 (nN rfl) (nN rfl) a2]
 ·erw[aj e2,<-st _ _ _ r.c (nN rfl) (nN rfl) c1]
 ·erw[aj e1,<-st _ _ _ r.v (nN rfl) (nN rfl) c2]
theorem nM.auto(r:ll g.R b z)(h:nM H z s)(e1:s'.ids=s.ids)(e2:s'.O z.A.c=s.O z.A.c):nM (upd (upd H z.sl (.list (s'.vs z.s2))) z.A.c (z.A.O s'.u)) z s':=by
 have st:∀x n m,g.R x=n->n≠b+5->n≠b+8->H x=some m->(upd (upd H z.sl (.list (s'.vs z.s2))) z.A.c (z.A.O s'.u)) x=some m:=λx n m e f d q=>
  ae (λz=>d (c_ e (aj z (aj r.c rfl)))) (ae (λz=>f (c_ e (aj z (aj r.sl rfl)))) q)
 rcases h with⟨a1,a2,⟨a3,⟨c1,c2,c3,c4,c5⟩⟩⟩
 refine⟨ae (bX r.sl r.c (nN rfl)) us,?_,⟨?_,⟨us,?_,st _ _ _ r.l (nN rfl) (nN rfl) c3,st _ _ _ r.o (nN rfl) (nN rfl) c4,st _ _ _ r.n (nN rfl) (nN rfl) c5⟩⟩⟩
 ·erw[aj e1,<-st _ _ _ r.s2 (nN rfl) (nN rfl) a2]
 ·erw[aj e2,<-st _ _ _ r.a (nN rfl) (nN rfl) a3]
 ·erw[aj e1,<-st _ _ _ r.v (nN rfl) (nN rfl) c2]
theorem nM.more(r:ll g.R b z)(h:nM H z s)(e1:s'.vs z.s2=s.vs z.s2)(e2:s'.O z.A.c=s.O z.A.c)(e3:s'.u=s.u):nM (upd (upd H z.s2 (.list (iv s'.ids))) z.A.v (.list (iv s'.ids))) z s':=by
 have st:∀x n m,g.R x=n->n≠b+6->n≠b+9->H x=some m->(upd (upd H z.s2 (.list (iv s'.ids))) z.A.v (.list (iv s'.ids))) x=some m:=λx n m e f d q=>
  ae (λz=>d (c_ e (aj z (aj r.v rfl)))) (ae (λz=>f (c_ e (aj z (aj r.s2 rfl)))) q)
 rcases h with⟨a1,a2,⟨a3,⟨c1,c2,c3,c4,c5⟩⟩⟩
 refine⟨?_,ae (bX r.s2 r.v (nN rfl)) us,⟨?_,⟨?_,us,st _ _ _ r.l (nN rfl) (nN rfl) c3,st _ _ _ r.o (nN rfl) (nN rfl) c4,st _ _ _ r.n (nN rfl) (nN rfl) c5⟩⟩⟩
 ·erw[aj e1,<-st _ _ _ r.sl (nN rfl) (nN rfl) a1]
 ·erw[aj e2,<-st _ _ _ r.a (nN rfl) (nN rfl) a3]
 ·erw[aj e3,<-st _ _ _ r.c (nN rfl) (nN rfl) c1]
theorem i5.AV(x:i5 H g b A h sn rej cj)(z:Option xn)(k:bJ (λn=>n=1\/n=3\/(b+2<=n/\n<=b+4)) H g H' g')(f:H' A.gl=some (.list ((A.AV z).gv rej cj)))(e:H' A.m=some (dD h A.me (yN z) rej cj))(d:g'.R A.gl=b)(c:g'.R A.m=b+1)(s:tY H' z E7)(a:∀y,z=some y->ll g'.R b y):i5 H' g' b (A.AV z) h E7 rej cj:=by
 rcases x with⟨a1,a2,a3,a4,a5,a6,a7,r1,r2,r3,r4,r5,r6⟩
 exact⟨f,e,k.h A.nu _ (aj r3 Yv) a3,k.h A.g3 _ (aj r4 YT) a4,k.h A.me _ (aj r5 Ya) a5,λt h=>(a6 t h).keep k (.inl rfl) (.inr (.inl rfl)),s,d,c,(k.r A.nu (aj r3 Yv)).trans r3,(k.r A.g3 (aj r4 YT)).trans r4,(k.r A.me (aj r5 Ya)).trans r5,a⟩
theorem HJ(n:l≠[]):KR (iv l) ((l.length:Int)-1)=some (.int (l.getLast n)):=by
 have hl:=nL.mpr n;unfold KR;erw[aj (if_pos (oG [(ys (yn 0),cN)] (yn 0,.sub cN (yn 1)) rt (bb.mpr hl))),aj (show((l.length:Int)-1).toNat=l.length-1 from Int.toNat_sub l.length 1),aj (cP),aj (bx (fe [(zs av,aW)] (zs av,aW) rt (aa (bM (dJ [(zs (zn 0),av)] (zn 1,av) rt hl)))))];rewrite[List.getLast_eq_getElem];rfl
theorem Ac(l:List Int):(iv l).length=l.length:=by unfold iv;rw[aq]
theorem w9.snoc(I:w9 l)(n:l≠[])(h:l.getLast n<v)(hl:l.length+1<=30)(c:rE v):w9 (l++[v]):=by
 refine⟨mu.mpr ⟨I.up,fA _ _,λa ha b d=>?_⟩,by erw[aj ah,aj aV,<-hl],λi hi=>?_⟩
 ·erw[aj (aR.mp d)];have e:=List.dropLast_concat_getLast n;have u:=I.up;rw[<-e] at u ha;rcases cC.mp ha with ha|ha
  ·exact Int.lt_trans ((mu.mp u).2.2 a ha _ j4) h
  ·erw[aj (aR.mp ha),<-h]
 ·rcases cC.mp hi with hi|hi
  ·exact I.Iq i hi
  ·erw[aj (aR.mp hi),<-c]
theorem BF(R:Rd af w K){sl s2:Addr}(cl:Claim H g)(M:i5 H g 20 A h sn rej cj)(I:g.R sl=0)(G:g.R s2=0)(h1:H sl=some (.list (s.vs s2)))(h2:H s2=some (.list (iv s.ids)))(Ok:s.Ok)(nn:s.ids≠[])(j:aB 2 n=true)(q:∀d t z,bJ (λn=>n≠0/\n<=24/\n≠20/\n≠21) H g d t->t.en=g.en->(∀a,t.R a=g.R a\/25<=t.R a)->Claim d t->i5 d t 20 (A.AV (some z)) h (some s) rej cj->Q .none d):aY af w K n 892 [.ref A.gl,.ref sl] H Q X:=by
 have u:sl≠A.gl:=λe=>by have:=M.rg;rw[<-e,I] at this;injection this
 have ng:s2≠A.gl:=λe=>by have:=M.rg;rw[<-e,G] at this;injection this
 have J:sl≠A.m:=λe=>by have:=M.rm;rw[<-e,I] at this;injection this
 have nm:s2≠A.m:=λe=>by have:=M.rm;rw[<-e,G] at this;injection this
 erw[Nh R M.hg M.hm h1 h2 Ok.ids u ng j,(d a C k f E m' sh)];have B:nM d ⟨sl,s2,a,C⟩ s:=⟨k _ _ u J h1,k _ _ ng nm h2,sh⟩;have pw:=B.pw f (aj h1 (λe=>nomatch e)) (aj h2 (λe=>nomatch e)) nn 20;have r0:∀x∈Oj 20 ⟨sl,s2,a,C⟩,g.R x.1=0:=aK I (aK G (aK (cl.fresh f.o) (aK (cl.fresh f.co.c) (aK (cl.fresh f.co.v) (aK (cl.fresh f.co.l) (aK (cl.fresh f.co.o) (aK (cl.fresh f.co.n) fK)))))));have r1:∀x∈Oj 20 ⟨sl,s2,a,C⟩,25<=x.2:=λx i=>(TX 20 _ x i).1;have L:∀{S:Nat->Prop},(∀n,S n->n≠0/\n<=24)->bJ S H g H (g.sets (Oj 20 ⟨sl,s2,a,C⟩)):=λz=>.sets _ (λx i e=>(z _ e).1 (r0 x i)) λx i e=>absurd (z _ e).2 (DB.mpr (r1 x i));have kq:∀{S:Nat->Prop},(∀n,S n->n≠0/\n<=24/\n≠20/\n≠21)->bJ S H g d (g.sets (Oj 20 ⟨sl,s2,a,C⟩)):=λz=>⟨(L λn j=>⟨(z n j).1,(z n j).2.1⟩).r,(L λn j=>⟨(z n j).1,(z n j).2.1⟩).m,λb F p hq=>k b F (λe=>by rw[e,M.rg] at p;exact(z _ p).2.2.1 rfl) (λe=>by rw[e,M.rm] at p;exact(z _ p).2.2.2 rfl) hq⟩;have rk:=L (S:=λn=>20<=n/\n<=24) λn h=>by exact⟨λO=>cH [(zn 20,av),(av,zn 0)] rt h.1 (aa O),h.2⟩
 refine q d _ ⟨sl,s2,a,C⟩ (kq λ_ h=>h) (Dd _) (λb=>?_) (Claim.sets _ ⟨λb p q=>?_⟩ ?_) (M.AV _ (kq λn h=>by exact⟨λW=>h.elim (λV=>cH [(av,zn 0),(zn 1,av)] rt (aa W) (aa (ao V))) (λV=>V.elim (λSY=>cH [(av,zn 0),(zn 3,av)] rt (aa W) (aa (ao SY))) (λSY=>cH [(av,zn 0),(zk (zn 20) 2,av)] rt (aa W) SY.1)),⟨h.elim (λRW=>dJ [(av,zn 1)] (av,zn 24) rt (aa RW)) (λRW=>RW.elim (λT=>dJ [(av,zn 3)] (av,zn 24) rt (aa T)) (λT=>dJ [(av,zk (zn 20) 4)] (av,zn 24) rt T.2)),⟨λSd=>h.elim (λSx=>cH [(zn 20,av),(av,zn 1)] rt (aa (ao Sd)) (aa Sx)) (λSx=>Sx.elim (λU=>cH [(zn 20,av),(av,zn 3)] rt (aa (ao Sd)) (aa U)) (λU=>cH [(av,zn 20),(zk (zn 20) 2,av)] rt (aa Sd) U.1)),λY=>h.elim (λR8=>cH [(zn 21,av),(av,zn 1)] rt (aa (ao Y)) (aa R8)) (λR8=>R8.elim (λP=>cH [(zn 21,av),(av,zn 3)] rt (aa (ao Y)) (aa P)) (λP=>cH [(av,zn 21),(zk (zn 20) 2,av)] rt (aa Y) P.1))⟩⟩⟩) E m' ((rk.r _ (aj M.rg (dc rfl))).trans M.rg) ((rk.r _ (aj M.rm (dc rfl))).trans M.rm) B λy N=>by injection N with N;subst N;exact .of pw)
 ·rcases vq (Oj 20 ⟨sl,s2,a,C⟩) with e|⟨x,i,e⟩
  ·exact .inl e
  ·exact .inr (aj e (r1 x i))
 ·by_cases e1:b=A.gl
  ·rw[e1,E] at q;injection q
  ·by_cases e2:b=A.m
   ·rw[e2,m'] at q;injection q
   ·cases D:H b with
    |none=>exact cl.c b p D
    |some F=>rw[k _ _ e1 e2 D] at q;injection q
 ·have sm:∀{x:Addr} {F:MO},d x=some F->d x≠none:=λe q=>by rw[e] at q;injection q
  exact aK (sm B.sl) (aK (sm B.s2) (aK (sm B.sn.o) (aK (sm B.sn.co.c) (aK (sm B.sn.co.v) (aK (sm B.sn.co.l) (aK (sm B.sn.co.o) (aK (sm B.sn.co.n) fK)))))))
theorem Nl(R:Rd af w K)(I:Inv nz pl ga ka wa t H g)(ht:t<=20)(hy:y<2^39)(L:aB 10 n=true)(q:∀H' g',Inv nz pl ga ka wa (t+1) H' g'->Q (.bool true) H'):aY af w K n 960 [.ref ga,.int (y:Int)] H Q X:=by
 erw[R.pn.to rfl L,(n L),iN I.msg,(A h sn x P eI M p)];subst eI;have h6:(A.gv x P).length<=100000:=dc rfl;have Ve:y / 5<2^39:=vY hy 5;have hm5:y%5<5:=k_;have Og:A.m≠A.gl:=bX M.rm M.rg (dc rfl);have U:∀(F:Hp)(N:Gh)(A1:CK)(J:Option Sn)(ρ:Loc),bJ (λn=>1<=n/\n<=14) H g F N->N.en=g.en->(∀a,N.R a=g.R a\/13<N.R a\/N.R a=0)->Claim F N->A1.gl=A.gl->i5 F N 20 A1 h J x P->jv h J P A1.tr (t+1)->ρ 0=some (.ref A.gl)->bO af w K aG n [dj (bD 878 [aN])] ρ F (dE Q) (cG X):=λF N A1 J ρ k1 e1 b1 cl ea M1 p1 r0=>by
  have I1:=I.xA k1 e1 b1 cl (qp _) ⟨A1,h,J,x,P,ea,M1,p1⟩;rw[<-ea] at r0;erw[Zt,<-Zz r0 ?_,tg R (M1.mb I1.cells) (i5.big (C:=I1.cells) M1 p1) (lv L rfl),<-bH Ext.refl (q _ _ I1)]
 have f:=M.hs;have rs:=M.rs;have Fb:=M.hg;have hm:=M.hm;erw[Zg,Zs rfl rfl,dI (y:=5) rfl,Zg,Zs rfl rfl,dS (y:=5) rfl (iM hy).big rfl,Zg,Zf rfl rfl,aw (v:=NM A.sa) Fb h6 rfl];cases Y:A.sa with
 |none=>
  cases xd:sn with
  |some _=>rw[Y,xd] at f;exact f.elim
  |none=>
  erw[Zh,ZS,Zc rfl,kY rfl,Zp,Zk,Zq,Zr rfl,Za,eP rfl,Za,Zz rfl,jc R (iM Ve) (lv L rfl),(v1 JY),Za,Zq,Za,Zs rfl rfl,dS (y:=3) rfl (iM Ve).big rfl,Zb,jc R (iM (vY Ve 3)) (lv L rfl),(v2 JP),Za,eP rfl,Za,ZI rfl,Zs rfl rfl,dI (y:=200) rfl,Zw,Zb,(s2 Ee),Za,Zai rfl,Zs rfl rfl,dI (y:=2) rfl];have br:∀{a b:Int} {G:Bool->Prop} {H:Hp},(∀u:Bool,G u)->jF .Eq (.int a) (.int b) H G:=λh=>cq (λ_=>h true) λ_=>h false;erw[br,(u),Za,Zz rfl,md R (iM Ve) (lv L rfl),(d hd),Zb,(sl l)];have e2:([.int (1+((y / 5%200:Nat):Int))]:List V)=iv [1+((y / 5%200:Nat):Int)]:=rfl;rw[e2] at l⊢;have abI:y / 5%200<200:=k_;generalize nO:([1+((y / 5%200:Nat):Int)]:List Int)=ids at l⊢;have Iid:w9 ids:=by
   erw[c_ nO,<-⟨fA _ _,by show 1<=30;decide,λi hi=>by erw[aj (aR.mp hi),<-⟨by exact VB,by exact ax.mpr (dJ [(zs av,zn 200)] (zp (zn 1) av,zn 18446744073709551615) rt k_)⟩]⟩]
  erw[aD (bo l),(sl1 WR)];have e3:([.int (v1:Int),.int (v2:Int),.ref s2,.bool u,.bytes d]:List V)=(Sn.mk (v1:Int) (v2:Int) ids u d).vs s2:=rfl;erw[aj e3];generalize Xn:Sn.mk (v1:Int) (v2:Int) ids u d=s;have es:s.ids=ids:=by refine' c_ Xn ?_;rfl
  have x2:Ext H (upd (upd H s2 (.list (iv ids))) sl (.list (s.vs s2))):=(Ext.fresh Ext.refl Ee).trans (Ext.fresh Ext.refl l);have c2:(upd (upd H s2 (.list (iv ids))) sl (.list (s.vs s2))) s2=some (.list (iv ids)):=ae (aJ WR) us;have c1:(upd (upd H s2 (.list (iv ids))) sl (.list (s.vs s2))) sl=some (.list (s.vs s2)):=us;have j:s.Ok:=by
   erw[c_ Xn,<-⟨⟨ir,by exact oE JY⟩,⟨ir,by exact oE JP⟩,Iid,by exact dK hd rfl⟩]
  have Lr:=I.claim.ext x2;have M2:=M.keep (.ext x2);erw[BF R Lr M2 (I.claim.fresh sl1) (I.claim.fresh Ee) c1 (aj es c2) j (aj es (c_ nO (λe=>(nomatch e)))) (lv L rfl),(H' g' z k e b cl' M')];have kx:=(bJ.ext x2).trans (k.sub λn h=>by exact Yu h)
  repeat (first|with_reducible refine' Ze ?_|with_reducible refine' Zd ?_)
  refine U H' g' (A.AV (some z)) (some s) _ kx e (λa=>?_) cl' rfl M' ⟨p.hi,p.zv,p.len,λs' E=>by
   injection E with E;subst E
   refine⟨j,(aj es (c_ nO (λe=>(nomatch e)))),?_,?_⟩
   ·erw[aj es,c_ nO,<-dJ [] (zn 1,zs av) rt]
   ·erw[aj es,c_ nO,(i hi),aj (aR.mp hi)];exact ax.mpr (fe [(zs av,zn 200)] (zp (zn 1) av,zm 200 (zs aW)) rt k_),p.c⟩ rfl
  rcases b a with h|h
  ·exact .inl h
  ·exact .inr (.inl (dJ [(zn 25,av)] (zs (zn 13),av) rt h))
 |some z=>
  cases xd:sn with
  |none=>rw[Y,xd] at f;exact f.elim
  |some s=>
  rw[Y,xd] at f;have r:=rs z Y;have f:nM H z s:=f;have l:=f.sl;erw[dX (p.so s xd),(j D T ib)];have h5:(s.vs z.s2).length<=100000:=dc rfl;have W:=hm;rw[Y] at W;unfold dD at W;have n1:z.sl≠A.gl:=bX r.sl M.rg (dc rfl);have n2:z.sl≠A.m:=bX r.sl M.rm (dc rfl);have n3:z.sl≠z.a:=bX r.sl r.a (dc rfl);have n4:z.sl≠z.A.c:=bX r.sl r.c (dc rfl);have n5:z.s2≠z.sl:=bX r.s2 r.sl (dc rfl);have n6:z.s2≠A.gl:=bX r.s2 M.rg (dc rfl);have n7:z.s2≠A.m:=bX r.s2 M.rm (dc rfl);have n8:z.s2≠z.a:=bX r.s2 r.a (dc rfl);have n9:z.s2≠z.A.c:=bX r.s2 r.c (dc rfl);have n10:z.s2≠z.A.v:=bX r.s2 r.v (dc rfl);have Xk:=f.sn.o;have Mr:=f.sn.co.c;unfold Sn.O at Xk;unfold BE.O at Mr;have done:∀(F:Hp)(s1:Sn)(ρ:Loc),(∀{S:Nat->Prop},(∀n,S n->n<=24)->bJ S H g F g)->Claim F g->nM F z s1->s1.Ok->s1.ids≠[]->s1.ids.length<=t+1+1->(∀i∈s1.ids,i<=200*((t+1:Nat)+1))->ρ 0=some (.ref A.gl)->bO af w K aG n [dj (bD 878 [aN])] ρ F (dE Q) (cG X):=λF s1 ρ kk cl B o1 o2 o3 o4 r0=>
   U F g A (some s1) ρ (kk λn h=>by exact dJ [(av,zn 14)] (av,zn 24) rt h.2) rfl (λ_=>.inl rfl) cl rfl (M.aag (kk λn h=>by exact h.elim (λUO=>dJ [(av,zn 1)] (av,zn 24) rt (aa UO)) (λUO=>UO.elim (λSa=>dJ [(av,zn 3)] (av,zn 24) rt (aa Sa)) (λSa=>dJ [(av,zk (zn 20) 4)] (av,zn 24) rt Sa.2))) (aj Y B)) ⟨p.hi,p.zv,p.len,λs' E=>by
    injection E with E;subst E
    exact⟨o1,o2,o3,o4⟩,p.c⟩ r0
  have up:∀{i:Int},i∈s.ids->i<=200*((t+1:Nat)+1):=λhi=>by have:=ib _ hi;exact Vl this
  erw[Zh,ZS,Zc rfl,kY rfl,Zi,Zh,Zj rfl rfl,<-cq (λe=>?_) (λe=>?_)]
  ·erw[Zp,ZK,Zq,Za,Zf rfl rfl,aw (v:=.int s.i) l h5 rfl,ZF rfl,iy R j.i Ve (lv L rfl),(v hv),Zc rfl,ZA,i_ l h5 (dc rfl) (dc rfl),Zu,Zf rfl rfl,aw us (dc rfl) rfl,Z4,Zf rfl rfl,aw (v:=.ref A.m) (ae (aJ n1) Fb) h6 rfl,aO (ae (aJ n2) W) rfl rfl,bQ (ae (aJ n3) Xk) rfl rfl]
   repeat (first|with_reducible refine' Ze ?_|with_reducible refine' Zd ?_)
   refine done (upd (upd H z.sl (.list ((Sn.mk (v:Int) s.t s.ids s.u s.d).vs z.s2))) z.a ((Sn.mk (v:Int) s.t s.ids s.u s.d).O z.A.c)) _ _ (λhS=>(bJ.upd (λq=>?_)).trans (bJ.upd (λq=>?_))) I.claim.upd.upd (nM.row r f rfl rfl) ⟨⟨ir,by exact oE hv⟩,j.t,j.ids,j.d⟩ D (by exact UZ T) (λi hi=>up hi) rfl
   ·have:=hS _ q;rw[r.sl] at this;exact TM this
   ·have:=hS _ q;rw[r.a] at this;exact VM this
  ·erw[Zi,Zh,Zj rfl rfl,<-cq (λe=>?_) (λe=>?_)]
   ·erw[Zp,ZK,Zq,Za,Zf rfl rfl,aw (v:=.bytes s.d) l h5 rfl,ZF rfl,i9 R j.d (iM Ve) (lv L rfl),(d hd),Zc rfl,ZA,i_ l h5 (dc rfl) (dc rfl),Zu,Zf rfl rfl,aw (v:=.bytes d) us (dc rfl) rfl,Z4,Zf rfl rfl,aw (v:=.ref A.m) (ae (aJ n1) Fb) h6 rfl,aO (ae (aJ n2) W) rfl rfl,bQ (ae (aJ n3) Xk) rfl rfl]
    repeat (first|with_reducible refine' Ze ?_|with_reducible refine' Zd ?_)
    refine done (upd (upd H z.sl (.list ((Sn.mk s.i s.t s.ids s.u d).vs z.s2))) z.a ((Sn.mk s.i s.t s.ids s.u d).O z.A.c)) _ _ (λhS=>(bJ.upd (λq=>?_)).trans (bJ.upd (λq=>?_))) I.claim.upd.upd (nM.row r f rfl rfl) ⟨j.i,j.t,j.ids,by exact dK hd rfl⟩ D (by exact UZ T) (λi hi=>up hi) rfl
    ·have:=hS _ q;rw[r.sl] at this;exact TM this
    ·have:=hS _ q;rw[r.a] at this;exact VM this
   ·erw[Zi,Zh,Zj rfl rfl,<-cq (λe=>?_) (λe=>?_)]
    ·have O9:(iv s.ids).length<=100000:=by rw[Ac];exact fe [(av,zn 20),(aW,zs av)] (aW,zn 100000) rt ht T
     have abI:y / 5%200<200:=k_;erw[ay (eJ (j.ids.Iq _ (List.getLast_mem D))),(ln eln lln)];have lib:=ib _ (List.getLast_mem D);erw[Zp,Zk,Zm,Zf rfl rfl,aw (v:=.ref z.s2) l h5 rfl,<-oW f.s2 ⟨rfl,?_⟩,Za,ZC,Zv rfl,Z7,Zf rfl rfl,aw (v:=.ref z.s2) l h5 rfl,Zv rfl,ZN,Za,Zf rfl rfl,aw (v:=.ref z.s2) l h5 rfl,Zb,dV f.s2 O9];rw[Ac];erw[Z3,aw f.s2 O9 (HJ D),Zw,Zs rfl rfl,dI (y:=200) rfl,Zw,Zb,qQ f.s2 O9];have ea:iv s.ids++[V.int (s.ids.getLast D+1+((y / 5%200:Nat):Int))]=iv (s.ids++[s.ids.getLast D+1+((y / 5%200:Nat):Int)]):=by unfold iv;refine' aj aX ?_;rfl
     erw[aj ea];have nn2:s.ids++[s.ids.getLast D+1+((y / 5%200:Nat):Int)]≠[]:=λe=>by
      have:=congrArg cF e;rw[ah] at this;injection this
     have Xc:=cY H z.s2 (MO.list (iv (s.ids++[s.ids.getLast D+1+((y / 5%200:Nat):Int)])));have WL:(iv (s.ids++[s.ids.getLast D+1+((y / 5%200:Nat):Int)])).length<=100000:=by rewrite[Ac];refine' aj ah ?_;refine' aj aV ?_;exact fe [(av,zn 20),(aW,zs av)] (zs aW,zn 100000) rt ht T
     have Xt:=ae (b:=z.s2) (mo:=(MO.list (iv (s.ids++[s.ids.getLast D+1+((y / 5%200:Nat):Int)])))) (aJ n5) l;erw[aw (v:=.ref A.m) (ae (aJ n6) Fb) h6 rfl,aO (ae (aJ n7) W) rfl rfl,aO (ae (aJ n8) Xk) rfl rfl,aO (ae (aJ n9) Mr) rfl rfl,<-oW (ae (aJ n10) f.sn.co.v) ⟨rfl,?_⟩,Za,Z7,Zf rfl rfl,aw (v:=.ref z.s2) Xt h5 rfl,Zv rfl,ZN,Za,Zf rfl rfl,aw (v:=.ref z.s2) Xt h5 rfl,Zb,dV Xc WL];rw[Ac];erw[Z3,aw Xc WL (HJ nn2),aj List.getLast_concat,Zb,qQ (ae (aJ n10) f.sn.co.v) O9,aj ea]
     repeat (first|with_reducible refine' Ze ?_|with_reducible refine' Zd ?_)
     refine done _ ⟨s.i,s.t,s.ids++[s.ids.getLast D+1+((y / 5%200:Nat):Int)],s.u,s.d⟩ _ (λhS=>(bJ.upd (λq=>?_)).trans (bJ.upd (λq=>?_))) I.claim.upd.upd (nM.more (s':=⟨s.i,s.t,s.ids++[s.ids.getLast D+1+((y / 5%200:Nat):Int)],s.u,s.d⟩) r f rfl rfl rfl) ⟨j.i,j.t,j.ids.snoc D (oY [(yn 0,cN)] (ys dW,yp (ys dW) cN) rt ir) (fe [(av,zn 20),(aW,zs av)] (zs aW,zn 30) rt ht T) ⟨by exact jU [(yn 0,cN),(cN,dW),(yn 0,fU)] (yn 0,yp (ys dW) fU) rt ir (aF (ao eln)) ir,by exact jU [(cN,ym 200 (ys dW)),(ym 200 dW,ym 200 (yn 20)),(ys fU,yn 200)] (yp (ys cN) fU,yn 18446744073709551615) rt lib (fq (ax.mpr ht) (dZ 200)) (bb.mpr k_)⟩,j.d⟩ nn2 ?_ (λi hi=>?_) rfl
     ·have:=hS _ q;rw[r.s2] at this;exact Ef [(zk (zn 20) 6,zn 24)] rt this
     ·have:=hS _ q;rw[r.v] at this;exact Ef [(zk (zn 20) 9,zn 24)] rt this
     ·show(s.ids++[_]).length<=_;erw[aj ah,aj aV,<-Th T]
     ·rcases cC.mp hi with hi|hi
      ·exact up hi
      ·erw[aj (aR.mp hi),<-zC [(cN,ym 200 (ys dW)),(ym 200 (ys dW),ym 200 fU),(ys vF,yn 200)] (yp (ys cN) vF,ym 200 (ys fU)) rt lib (fq (aF (ao (bj _ _))) (dZ 200)) (bb.mpr k_)]
    ·erw[Zi,Zh,Zj rfl rfl,<-cq (λe=>?_) (λe=>?_)]
     ·erw[Zp,ZK,Zar,Zf rfl rfl,aw (v:=.bool s.u) l h5 rfl,Zx,Zc rfl,ZA,i_ l h5 (dc rfl) (dc rfl),Zu,Zf rfl rfl,aw us (dc rfl) rfl,Z4,Z4,Zf rfl rfl,aw (v:=.ref A.m) (ae (aJ n1) Fb) h6 rfl,aO (ae (aJ n2) W) rfl rfl,aO (ae (aJ n3) Xk) rfl rfl,bQ (ae (aJ n4) Mr) rfl rfl]
      repeat (first|with_reducible refine' Ze ?_|with_reducible refine' Zd ?_)
      refine done (upd (upd H z.sl (.list ((Sn.mk s.i s.t s.ids (!s.u) s.d).vs z.s2))) z.A.c (z.A.O (!s.u))) ⟨s.i,s.t,s.ids,!s.u,s.d⟩ _ (λhS=>(bJ.upd (λq=>?_)).trans (bJ.upd (λq=>?_))) I.claim.upd.upd (nM.auto r f rfl rfl) ⟨j.i,j.t,j.ids,j.d⟩ D (by exact UZ T) (λi hi=>up hi) rfl
      ·have:=hS _ q;rw[r.sl] at this;exact TM this
      ·have:=hS _ q;rw[r.c] at this;exact Ef [(zk (zn 20) 8,zn 24)] rt this
     ·erw[Zi,ZK,ZA,Zc rfl,ZA,i_ Fb h6 (dc rfl) (dc rfl),Zu,ZA,Zf rfl rfl,aw (v:=.ref A.m) us h6 rfl,bQ (ae Og W) rfl rfl];have kk:∀{S:Nat->Prop},¬S 20->¬S 21->bJ S H g (upd (upd H A.gl (.list ((A.AV none).gv x P))) A.m (dD h A.me .none x P)) g:=λs1 s2=>(bJ.upd (aj M.rg s1)).trans (bJ.upd (aj M.rm s2))
      repeat (first|with_reducible refine' Ze ?_|with_reducible refine' Zd ?_)
      exact U (upd (upd H A.gl (.list ((A.AV none).gv x P))) A.m (dD h A.me .none x P)) g (A.AV none) none _ (kk (dc rfl) (dc rfl)) rfl (λ_=>.inl rfl) I.claim.upd.upd rfl (M.AV none (kk (dc rfl) (dc rfl)) (ae (aJ Og) us) us M.rg M.rm trivial (λ_ h=>nomatch h)) ⟨p.hi,p.zv,p.len,(λ_ h=>nomatch h),p.c⟩ rfl
end
section
variable{G:Hp}
noncomputable def cmz(vs:List V):MO:=.inst 627 (([2,21,22,23,24,25]:List Nat).zip vs)
theorem v9(R:Rd af w K)(M:Kb H A c)(i:f<=5)(g:aB 0 n=true)(q:Q .none (upd (upd H A.kr (.list (c.vs.set f v))) A.cm (cmz (c.vs.set f v)))):aY af w K n 899 [.ref A.kl,.int (f:Int),v] H Q X:=by
 erw[R.NB.to rfl g,(n g)];rcases M with⟨hk,hc,hr⟩
 have h2:([V.ref A.cm,.ref A.kr]).length<=100000:=dc rfl;have h6:c.vs.length<=100000:=dc rfl;have G:∀y,(upd H A.kr y) A.kl=some (.list [.ref A.cm,.ref A.kr]):=λy=>ae (fQ hk hr (λz=>by cases z)) hk;have nm:=fQ hc hr (λz=>by injection z);unfold Cm.o at hc;erw[aw hk h2 rfl,Zc rfl,i_ hr h6 ir (by exact bb.mpr (dJ [(av,zn 5)] (zs av,zn 6) rt i))];rw[aL];have d:∀{a b:Nat} {P:Prop},ic a b=false->a=(b:Int)->P:=λh e=>by
  have:=Int.natCast_inj.mp e;rw[this,Nat.beq_refl] at h;injection h
 revert q;refine nb6 (gh i) ?_ ?_ ?_ ?_ ?_ ?_
 ·erw[(q),Zh,Zj rfl rfl,<-cq (λ_=>?_) (λz=>absurd rfl z),aw (G _) h2 rfl,bQ (ae nm hc) rfl rfl,Ze,Zd,Ze,<-cR Ext.refl q]
 ·erw[(q),Zh,Zj rfl rfl,<-cq (d rfl) (λ_=>?_),Zi,Zh,Zj rfl rfl,<-cq (λ_=>?_) (λz=>absurd rfl z),aw (G _) h2 rfl,bQ (ae nm hc) rfl rfl,<-cR Ext.refl q]
 ·erw[(q),Zh,Zj rfl rfl,<-cq (d rfl) (λ_=>?_),Zi,Zh,Zj rfl rfl,<-cq (d rfl) (λ_=>?_),Zi,Zh,Zj rfl rfl,<-cq (λ_=>?_) (λz=>absurd rfl z),aw (G _) h2 rfl,bQ (ae nm hc) rfl rfl,<-cR Ext.refl q]
 ·erw[(q),Zh,Zj rfl rfl,<-cq (d rfl) (λ_=>?_),Zi,Zh,Zj rfl rfl,<-cq (d rfl) (λ_=>?_),Zi,Zh,Zj rfl rfl,<-cq (d rfl) (λ_=>?_),Zi,Zh,Zj rfl rfl,<-cq (λ_=>?_) (λz=>absurd rfl z),aw (G _) h2 rfl,bQ (ae nm hc) rfl rfl,<-cR Ext.refl q]
 ·erw[(q),Zh,Zj rfl rfl,<-cq (d rfl) (λ_=>?_),Zi,Zh,Zj rfl rfl,<-cq (d rfl) (λ_=>?_),Zi,Zh,Zj rfl rfl,<-cq (d rfl) (λ_=>?_),Zi,Zh,Zj rfl rfl,<-cq (d rfl) (λ_=>?_),Zi,Zh,Zj rfl rfl,<-cq (λ_=>?_) (λz=>absurd rfl z),aw (G _) h2 rfl,bQ (ae nm hc) rfl rfl,<-cR Ext.refl q]
 ·erw[(q),Zh,Zj rfl rfl,<-cq (d rfl) (λ_=>?_),Zi,Zh,Zj rfl rfl,<-cq (d rfl) (λ_=>?_),Zi,Zh,Zj rfl rfl,<-cq (d rfl) (λ_=>?_),Zi,Zh,Zj rfl rfl,<-cq (d rfl) (λ_=>?_),Zi,Zh,Zj rfl rfl,<-cq (d rfl) (λ_=>?_),aw (G _) h2 rfl,bQ (ae nm hc) rfl rfl,<-cR Ext.refl q]
theorem Iw.tell(x:Iw H g A c)(a:Cm):Iw (upd (upd H A.kr (.list a.vs)) A.cm a.o) g A a:=
 ⟨⟨ae (bX x.rk x.rc (dc rfl)) (ae (bX x.rk x.rr (dc rfl)) x.kb.k),us,ae (bX x.rr x.rc (dc rfl)) us⟩,x.rk,x.rc,x.rr⟩
theorem Inv.FT(I:Inv nz pl ga ka wa t H g)(k:bJ (λn=>n≠0/\n≠11/\n≠12/\n≠13) H g H' g')(he:g'.en=g.en)(hb:∀a,g'.R a=g.R a\/g'.R a=12)(C:Claim H' g')(m:∃A c,A.kl=ka/\Iw H' g' A c/\c.Good):Inv nz pl ga ka wa t H' g':=by
 erw[iB I.wait,(B o es e2 w q),iN I.msg,(A h sn r cj e1 M p),bf I.yY,(ts P),<-⟨I.cells.keep (k.sub λn h=>by exact⟨λf=>cH [(zn 1,av),(av,zn 0)] rt h.1 (aa f),⟨λe=>cH [(av,zn 5),(zn 11,av)] rt h.2 (aa (ao e)),⟨λd=>cH [(av,zn 5),(zn 12,av)] rt h.2 (aa (ao d)),λb=>cH [(av,zn 5),(zn 13,av)] rt h.2 (aa (ao b))⟩⟩⟩) (λa _ _=>by erw[aj he];rfl) (λa h1 h2=>?_),C,⟨ts,P.keep (k.sub λn h=>by exact⟨λj=>h.elim (λK=>cH [(av,zn 0),(zn 1,av)] rt (aa j) (aa (ao K))) (λK=>K.elim (λJ=>cH [(av,zn 0),(zn 3,av)] rt (aa j) (aa (ao J))) (λJ=>cH [(av,zn 0),(zn 6,av)] rt (aa j) (aa (ao J)))),⟨λQ=>h.elim (λN=>cH [(zn 11,av),(av,zn 1)] rt (aa (ao Q)) (aa N)) (λN=>N.elim (λW=>cH [(zn 11,av),(av,zn 3)] rt (aa (ao Q)) (aa W)) (λW=>cH [(zn 11,av),(av,zn 6)] rt (aa (ao Q)) (aa W))),⟨λx=>h.elim (λv=>cH [(zn 12,av),(av,zn 1)] rt (aa (ao x)) (aa v)) (λv=>v.elim (λL=>cH [(zn 12,av),(av,zn 3)] rt (aa (ao x)) (aa L)) (λL=>cH [(zn 12,av),(av,zn 6)] rt (aa (ao x)) (aa L))),λi=>h.elim (λs=>cH [(zn 13,av),(av,zn 1)] rt (aa (ao i)) (aa s)) (λs=>s.elim (λV=>cH [(zn 13,av),(av,zn 3)] rt (aa (ao i)) (aa V)) (λV=>cH [(zn 13,av),(av,zn 6)] rt (aa (ao i)) (aa V)))⟩⟩⟩)⟩,⟨A,h,sn,r,cj,e1,M.keep (k.sub λn h=>by unfold oz at h;exact⟨λz=>h.elim (λu=>cH [(av,zn 0),(zn 1,av)] rt (aa z) (aa (ao u))) (λu=>u.elim (λO=>cH [(av,zn 0),(zn 3,av)] rt (aa z) (aa (ao O))) (λO=>cH [(av,zn 0),(zn 20,av)] rt (aa z) O.1)),⟨λD=>h.elim (λy=>cH [(zn 11,av),(av,zn 1)] rt (aa (ao D)) (aa y)) (λy=>y.elim (λF=>cH [(zn 11,av),(av,zn 3)] rt (aa (ao D)) (aa F)) (λF=>cH [(av,zn 11),(zn 20,av)] rt (aa D) F.1)),⟨λT=>h.elim (λU=>cH [(zn 12,av),(av,zn 1)] rt (aa (ao T)) (aa U)) (λU=>U.elim (λG=>cH [(zn 12,av),(av,zn 3)] rt (aa (ao T)) (aa G)) (λG=>cH [(av,zn 12),(zn 20,av)] rt (aa T) G.1)),λl=>h.elim (λE=>cH [(zn 13,av),(av,zn 1)] rt (aa (ao l)) (aa E)) (λE=>E.elim (λS=>cH [(zn 13,av),(av,zn 3)] rt (aa (ao l)) (aa S)) (λS=>cH [(av,zn 13),(zn 20,av)] rt (aa l) S.1))⟩⟩⟩),p⟩,m,⟨B,o,es,e2,w.keep (k.sub λn h=>by unfold sW at h;exact⟨λXd=>h.elim (λL3=>cH [(av,zn 0),(zn 4,av)] rt (aa Xd) (aa (ao L3))) (λL3=>cH [(av,zn 0),(zn 7,av)] rt (aa Xd) L3.1),⟨λQY=>h.elim (λX=>cH [(zn 11,av),(av,zn 4)] rt (aa (ao QY)) (aa X)) (λX=>cH [(zn 11,av),(av,zn 10)] rt (aa (ao QY)) X.2),⟨λQS=>h.elim (λY=>cH [(zn 12,av),(av,zn 4)] rt (aa (ao QS)) (aa Y)) (λY=>cH [(zn 12,av),(av,zn 10)] rt (aa (ao QS)) Y.2),λQM=>h.elim (λLM=>cH [(zn 13,av),(av,zn 4)] rt (aa (ao QM)) (aa LM)) (λLM=>cH [(zn 13,av),(av,zn 10)] rt (aa (ao QM)) LM.2)⟩⟩⟩),q⟩,I.num.keep (k.sub λn h=>by exact⟨λXx=>cH [(zn 14,av),(av,zn 0)] rt (aa (ao h)) (aa Xx),⟨λVK=>cH [(zn 14,av),(av,zn 11)] rt (aa (ao h)) (aa VK),⟨λYI=>cH [(zn 14,av),(av,zn 12)] rt (aa (ao h)) (aa YI),λVN=>cH [(zn 14,av),(av,zn 13)] rt (aa (ao h)) (aa VN)⟩⟩⟩)⟩];rcases hb a with h|h
 ·exact h.symm
 ·exact aS ((cH [(zn 12,av),(av,zn 5)] rt (aa (ao h)) h2).elim) ((cH [(zn 12,av),(av,zn 5)] rt (aa (ao h)) h2).elim)
noncomputable def Cm.d6(c:Cm)(f:Nat)(v:Int):Cm:=match f with
 |0=>⟨v,c.c,c.n,c.key,c.val,c.ex⟩
 |1=>⟨c.k,v,c.n,c.key,c.val,c.ex⟩
 |_=>⟨c.k,c.c,v,c.key,c.val,c.ex⟩
noncomputable def Cm.CH(c:Cm)(f:Nat):Int:=match f with
 |0=>c.k
 |1=>c.c
 |_=>c.n
theorem Cm.Hk(c:Cm)(h:f<=2)(v:Int):c.vs.set f (.int v)=(c.d6 f v).vs/\cmz (c.vs.set f (.int v))=(c.d6 f v).o/\c.vs[f]?=some (.int (c.CH f)):=by
 refine UG (gh h) ?_ ?_ ?_
 ·exact⟨rfl,rfl,rfl⟩
 ·exact⟨rfl,rfl,rfl⟩
 ·exact⟨rfl,rfl,rfl⟩
theorem Cm.DO(c:Cm)(v u:Int):(c.d6 f v).d6 f u=c.d6 f u:=by
 match f with
 |0=>rfl
 |1=>rfl
 |f+2=>rfl
theorem Cm.Good.d6{c:Cm}(g:c.Good)(h:rE v)(h0:f=0->v<=6):(c.d6 f v).Good:=by
 rcases g with⟨⟨b1,b2,b3,b4,b5,b6⟩,⟨i1,i2,i3,i4⟩⟩
 match f with
 |0=>exact⟨⟨lh h,b2,b3,b4,b5,b6⟩,⟨h.1,h0 rfl,i3,i4⟩⟩
 |1=>exact⟨⟨b1,lh h,b3,b4,b5,b6⟩,⟨i1,i2,h,i4⟩⟩
 |f+2=>exact⟨⟨b1,b2,lh h,b4,b5,b6⟩,⟨i1,i2,i3,h⟩⟩
theorem Cm.An.d6{c:Cm}(g:c.An)(f:Nat)(h:big v):(c.d6 f v).An:=by
 rcases g with⟨b1,b2,b3,b4,b5,b6⟩
 match f with
 |0=>exact⟨h,b2,b3,b4,b5,b6⟩
 |1=>exact⟨b1,h,b3,b4,b5,b6⟩
 |f+2=>exact⟨b1,b2,h,b4,b5,b6⟩
theorem Cm.In.of{c:Cm}(a:f<=2)(i:(c.d6 f v).In):rE v/\(f=0->v<=6):=by
 revert i;refine UG (gh a) (λi=>?_) (λi=>?_) λi=>?_
 ·exact⟨⟨i.1,zw i.2 (dc rfl)⟩,λ_=>i.2⟩
 ·exact⟨i.3,λh=>nomatch h⟩
 ·exact⟨i.4,λh=>nomatch h⟩
theorem Cm.Good.get{c:Cm}(g:c.Good)(a:f<=2):rE (c.CH f)/\(f=0->c.CH f<=6):=by
 refine UG (gh a) ?_ ?_ ?_
 ·exact⟨⟨g.i.k0,zw g.i.k6 (dc rfl)⟩,λ_=>g.i.k6⟩
 ·exact⟨g.i.c,λh=>nomatch h⟩
 ·exact⟨g.i.n,λh=>nomatch h⟩
theorem wI(R:Rd af w K)(x:Iw H g A c)(h:f<=2)(a:aB 0 n=true)(q:Iw (upd (upd H A.kr (.list (c.d6 f v).vs)) A.cm (c.d6 f v).o) g A (c.d6 f v)->Q .none (upd (upd H A.kr (.list (c.d6 f v).vs)) A.cm (c.d6 f v).o)):aY af w K n 899 [.ref A.kl,.int (f:Int),.int v] H Q X:=by
 erw[v9 R x.kb (dK h rfl) a,cA (c.Hk h v),(e1 e2 _),aj e1,<-q (x.tell _)]
end
section
variable{G:Hp}
theorem GX(R:Rd af w K)(I:Inv nz pl ga ka wa t H g)(hy:y<2^39)(j:aB 10 n=true)(q:∀E g',Inv nz pl ga ka wa t E g'->Q (.bool true) E):aY af w K n 967 [.ref ka,.int (y:Int)] H Q X:=by
 erw[R.lW.to rfl j,(n j),df I.cmd,(A c eI M G)];subst eI;have h2:([V.ref A.cm,.ref A.kr]:List V).length<=100000:=dc rfl;have h6:c.vs.length<=100000:=dc rfl;have P:=vY hy 6;have WU:y%6<6:=k_;have s:∀(p:Cm)(ρ:Loc),p.Good->ρ 0=some (.ref A.kl)->ρ 3=some (.int ((y / 6:Nat):Int))->bO af w K aG n [.dm (.not (bD 913 [aN])) [dj (.cst (.bool false))] [],.dm (.cmp .Eq (.bin .Mod dP (ek 2)) (ek 0)) [.hK aN (ek 0) (bD 652 [(.bp (bw aN 0) 13 [])])] [],dj (.cst (.bool true))] ρ (upd (upd H A.kr (.list p.vs)) A.cm p.o) (dE Q) (cG X):=λp ρ B L r3=>by
  have l:=M.tell p;have kk:∀{S:Nat->Prop},¬S 12->¬S 13->bJ S H g (upd (upd H A.kr (.list p.vs)) A.cm p.o) g:=λs1 s2=>(bJ.upd (aj M.rr s2)).trans (bJ.upd (aj M.rc s1));have T:=I.FT (kk (dc rfl) (dc rfl)) rfl (λ_=>.inl rfl) I.claim.upd.upd ⟨A,p,rfl,l,B⟩;generalize upd (upd H A.kr (.list p.vs)) A.cm p.o=H1 at l T;erw[Zh,ZP,<-Zaa L ?_,D3 R l.kb B (lv j rfl),Zx,Zi,Ze,Zd,Zh,Zy rfl,Zv rfl,<-Zc r3 ?_,dI rfl,<-cq (λe=>?_) (λe=>?_)]
  ·erw[Zp,ZK,Zq,Za,Zm,Zo rfl,<-Zc L ?_,aw l.kb.k h2 rfl];have hc:=l.kb.c;unfold Cm.o at hc;erw[<-fj hc ⟨rfl,?_⟩,Zb,bt hc rfl,<-kO R l.kb.c B.b (lv j rfl) (λ_=>?_) λi=>absurd B.i i,Zb,nY R B.b B.i (lv j rfl),(d x)];have ek:Ext H1 (upd H1 d p.o):=Ext.fresh Ext.refl x;erw[<-Zc L ?_,ZA,i_ (ek _ _ l.kb.k) h2 (dc rfl) (dc rfl),Ze,Zd,ZO rfl];have L:=T.claim.fresh x;have k1:bJ (λn=>n≠0/\n≠11/\n≠12) H1 g (upd (upd H1 d p.o) A.kl (.list [.ref d,.ref A.kr])) (g.set d 12):=((bJ.ext ek).trans (bJ.upd (aj M.rk (dc rfl)))).trans (bJ.set (aj L (dc rfl)));have U:=aJ (ne_sn l.kb.k x);have nr:=aJ (ne_sn l.kb.r x);refine bH Ext.refl (q _ (g.set d 12) (T.FT (k1.sub λn h=>by exact⟨h.1,⟨h.2.1,h.2.2.1⟩⟩) rfl (λa=>?_) (Claim.set (T.claim.ext ek).upd ?_) ⟨⟨A.kl,d,A.kr⟩,p,rfl,⟨⟨us,ae U us,k1.h _ _ (aj M.rr (dc rfl)) l.kb.r⟩,(fp (aJ U)).trans M.rk,gM,(fp (aJ nr)).trans M.rr⟩,B⟩))
   ·by_cases e:a=d
    ·erw[aj e,<-.inr gM]
    ·exact .inl (fp e)
   ·erw[aj (ae U us),<-λz=>nomatch z]
  ·erw[Zi,Ze,Zd,ZO rfl,<-bH Ext.refl (q _ _ T)]
 erw[Zg,Zs rfl rfl,dI rfl,Zg,Zs rfl rfl,dS rfl (iM hy).big rfl,Zg,Zo rfl,Zf rfl rfl,aw M.kb.k h2 rfl];have W:y%6<=2->∃v,c.vs[y%6]?=some v/\v=.int (c.CH (y%6)):=λh=>⟨_,(c.Hk h 0).2.2,rfl⟩;have all:∃v,c.vs[y%6]?=some v:=⟨c.vs[y%6]'(by assumption),bx _⟩;erw[bf all,(v D),aw M.kb.r h6 (fh D),Zh,Zj rfl rfl,<-fC (λe=>?_) (λe=>?_)]
 ·have C:y%6<=2:=by exact dJ [(zs av,zn 3)] (av,zn 2) rt (bb.mp e)
  erw[ay (W C),(v' N e')];rw[D] at N
  obtain rfl:=bV N
  subst e';erw[Zp,Zk,Zq,Zr rfl,Zr rfl,Za,Zz rfl,xm R (iM P) (lv j rfl),(v hv hb),Zb,wI R M C (lv j rfl),(l),Zg,Zq,Za,Zf rfl rfl,aw l.kb.k h2 rfl,Zb,sR R l.kb.c (Cm.An.d6 G.b _ hb) (λi=>hv (Cm.In.of C i).1) (lv j rfl)];have go:∀(v u:Int),Iw (upd (upd H A.kr (.list (c.d6 (y%6) v).vs)) A.cm (c.d6 (y%6) v).o) g A (c.d6 (y%6) v)->rE u->(y%6=0->u<=6)->∀F:V->Hp->Prop,(∀E,(∀ρ:Loc,ρ 0=some (.ref A.kl)->ρ 3=some (.int ((y / 6:Nat):Int))->bO af w K aG n [.dm (.not (bD 913 [aN])) [dj (.cst (.bool false))] [],.dm (.cmp .Eq (.bin .Mod dP (ek 2)) (ek 0)) [.hK aN (ek 0) (bD 652 [(.bp (bw aN 0) 13 [])])] [],dj (.cst (.bool true))] ρ E (dE Q) (cG X))->F .none E)->
    aY af w K n 899 [.ref A.kl,.int ((y%6:Nat):Int),.int u] (upd (upd H A.kr (.list (c.d6 (y%6) v).vs)) A.cm (c.d6 (y%6) v).o) F (cG X):=λv u l Y h0 F hF=>by
   erw[wI R l C (lv j rfl),(J)];rw[Cm.DO];erw[aj (fw (bX M.rc M.rr (dc rfl)))];rewrite[bR,bR];exact hF _ λρ=>s (c.d6 (y%6) u) ρ (G.d6 Y h0)
  erw[Zh,Zj rfl rfl,<-cq (λe0=>?_) (λe0=>?_)]
  ·have O:y%6=0:=by exact Tt e0
   erw[Zp,Zk,Zq,Zr rfl,Zr rfl,Za,ZI rfl,Zs rfl rfl,dI rfl,Zw,Zb,wI R l C (lv j rfl),(J)];rw[Cm.DO] at J⊢;rw[fw (bX M.rc M.rr (dc rfl)),bR,bR] at J⊢;erw[Zg,ZY,Zc rfl,Zx,Zp,Zq,Za,Zf rfl rfl,aw J.kb.k h2 rfl,Zb];have ab3:y / 6%300<300:=k_;erw[sR R J.kb.c (Cm.An.d6 G.b _ (du (JS (Nat.add_lt_add_left k_ 7) rfl))) (λi=>by have:=(Cm.In.of C i).2 O;exact cH [(zp (zn 7) av,zn 6)] rt (ax.mp this)) (lv j rfl),Zk,Zq,Zr rfl,Zr rfl,Za,Zv rfl,ZC,Zs rfl rfl,Zw,Zs rfl rfl,dI rfl,Zw,aD (G.get C),(B g2),ay (eJ B),(m em lm)];have gm:=g2 O;erw[aj (show c.CH (y%6)+1+((y / 6%6:Nat):Int)=((m+1+y / 6%6:Nat):Int) by exact Vp em),dI (y:=7) rfl,Zb];have h7:(m+1+y / 6%6)%7<7:=k_;erw[go _ _ J ⟨ir,ax.mpr (dJ [(zs av,zn 7)] (av,zn 18446744073709551615) rt k_)⟩ (λ_=>by exact Vv) _,(E h),Ze,Zd,Zh,ZP,<-Zaf rfl ?_,Zx,Zi,Ze,Zd,Ze,Zd,<-h _ rfl rfl]
  ·erw[Zi,Zk,Zq,Zr rfl,Zr rfl,Za,ZU rfl rfl,iy R (G.get C).1 P (lv j rfl),(u Y),Zb,go _ _ l ⟨ir,oE Y⟩ (λz=>absurd (XT z) e0) _,(E h),Ze,Zd,Zh,ZP,<-Zaf rfl ?_,Zx,Zi,Ze,Zd,Ze,Zd,<-h _ rfl rfl]
 ·erw[Zi,Zh,Zj rfl rfl,<-fC (λe5=>?_) (λe5=>?_)]
  ·have:y%6=3\/y%6=4:=(Nat.eq_or_lt_of_le (ax.mp e)).elim (λh=>.inl h.symm) (λh=>.inr (aS (iJ (bb.mp e5)) h));rcases this with e3|e4
   ·rw[e3] at D⊢
    obtain rfl:=bV D
    erw[Zp,Zk,Zq,Zr rfl,Zr rfl,Za,ZU rfl rfl,i9 R G.b.key (iM P) (lv j rfl),(d x),Zb,v9 R M.kb (f:=3) (dc rfl) (lv j rfl)]
    repeat (first|with_reducible refine' Ze ?_|with_reducible refine' Zd ?_)
    refine s ⟨c.k,c.c,c.n,d,c.val,c.ex⟩ _ ⟨⟨G.b.k,G.b.c,G.b.n,by exact dK x rfl,G.b.val,G.b.ex⟩,⟨G.i.k0,G.i.k6,G.i.c,G.i.n⟩⟩ rfl rfl
   ·rw[e4] at D⊢
    obtain rfl:=bV D
    erw[Zp,Zk,Zq,Zr rfl,Zr rfl,Za,ZU rfl rfl,i9 R G.b.val (iM P) (lv j rfl),(d x),Zb,v9 R M.kb (f:=4) (dc rfl) (lv j rfl)]
    repeat (first|with_reducible refine' Ze ?_|with_reducible refine' Zd ?_)
    refine s ⟨c.k,c.c,c.n,c.key,d,c.ex⟩ _ ⟨⟨G.b.k,G.b.c,G.b.n,G.b.key,by exact dK x rfl,G.b.ex⟩,⟨G.i.k0,G.i.k6,G.i.c,G.i.n⟩⟩ rfl rfl
  ·have e5:y%6=5:=by exact aS (dJ [(zs av,zn 6)] (av,zn 5) rt k_) (dJ [(zn 5,av)] (zn 5,av) rt (ax.mp e5))
   rw[e5] at D⊢
   obtain rfl:=bV D
   cases hx:c.ex with
   |none=>
    erw[Zi,Zh,ZS,Zc rfl,kY rfl,Zp,Zk,Zq,Zr rfl,Zr rfl,Za,Zz rfl,md R (iM P) (lv j rfl),(d x),Zb,v9 R M.kb (f:=5) (dc rfl) (lv j rfl)]
    repeat (first|with_reducible refine' Ze ?_|with_reducible refine' Zd ?_)
    refine s ⟨c.k,c.c,c.n,c.key,c.val,some d⟩ _ ⟨⟨G.b.k,G.b.c,G.b.n,G.b.key,G.b.val,λd' h=>by injection h with h;subst h;exact dK x rfl⟩,⟨G.i.k0,G.i.k6,G.i.c,G.i.n⟩⟩ rfl rfl
   |some d=>
    erw[Zi,Zh,ZS,Zc rfl,kY rfl,Zi,Zk,Zaj rfl rfl rfl,v9 R M.kb (f:=5) (dc rfl) (lv j rfl)]
    repeat (first|with_reducible refine' Ze ?_|with_reducible refine' Zd ?_)
    refine s ⟨c.k,c.c,c.n,c.key,c.val,none⟩ _ ⟨⟨G.b.k,G.b.c,G.b.n,G.b.key,G.b.val,λd' h=>nomatch h⟩,⟨G.i.k0,G.i.k6,G.i.c,G.i.n⟩⟩ rfl rfl
end
section
variable{G:Hp}
theorem IX{xs:List En}(h:∀x,plain 7 (f x)=true):∀v∈xs.map f,plain 7 v=true:=λv a=>by
 erw[ay (cK.mp a),(x _ e)];subst e;exact h x
theorem K3(R:Rd af w K){A:WbA}{a:Nat}(g:H A.wl=some (.list [.ref A.u,.int (a:Int),.ref A.w2]))(E:H A.u=some (B4 A.ue a))(j:H A.ue=some (.list (aT es)))(h2:H A.w2=some (.list (aT rs)))(B:dT H es xs)(hr:j7 H rs xs)(r:∀x∈xs,x.Good)(l:xs.length<=50)(O:Y y)(m:aB 4 n=true)(q:Q (.bool true) H):aY af w K n 972 [.ref A.wl,.int (y:Int)] H Q X:=by
 erw[R.Ie.to rfl m,(n m)];have h3:([V.ref A.u,.int (a:Int),.ref A.w2]).length<=100000:=dc rfl;have W:=B.length;have I:=hr.length;have s:=E;unfold B4 at s;erw[Zh,ZH,Zm,Zf rfl rfl,aw g h3 rfl,bC s rfl,Zb,bt s rfl,Jt R E j B (dK l rfl) (lv m rfl),iX rfl,Za,Zf rfl rfl,aw g h3 rfl,Za,ZL,Za,ZJ,Zf rfl rfl,aw g h3 rfl,<-tv (λx=>.tup x.vs) h2 (dK l rfl) hr (λe x D j L t=>?_) λc U=>?_]
 ·have h4:x.vs.length<=1000:=dc rfl;erw[ZL,ZF rfl,gf j (by assumption),<-t]
 ·have e1:Ext H (upd H c (.list (xs.map λx=>.tup x.vs))):=Ext.fresh Ext.refl U;erw[Zb,gf us (by rw[aq];exact dK l rfl),ZF rfl];generalize upd H c (.list (xs.map λx=>.tup x.vs))=H1 at e1;erw[Ib (js (aK rfl (aK (js (IX λx=>rfl)) (aK rfl fK)))),Zi,Ze,Zd,Zg,Zm,Zf rfl rfl,aw (e1 _ _ g) h3 rfl,<-fj (e1 _ _ s) ⟨rfl,?_⟩,Za,Zf rfl rfl,aw (e1 _ _ g) h3 rfl,Za,ZC,Zf rfl rfl,aw (e1 _ _ g) h3 rfl,ZN,Za,Zf rfl rfl,aw (e1 _ _ g) h3 rfl,Zb,dV (e1 _ _ h2) (by rw[bG];exact lK I l rfl)];rw[bG];erw[Zw,Zb,bt (e1 _ _ s) rfl,aj (show a+(rs.length:Nat)=((a+rs.length:Nat):Int) by exact PS),vh R (e1 _ _ E) (e1 _ _ j) (lK W l rfl) qt vt (yj [(av,aW),(aW,bT)] (zp f9 av,zp f9 bT) rt (aa I) (aa (ao W))) (lv m rfl),(d T)];rewrite[jX,ou];erw[aj fO,aj (d5 (VF W I))];have e2:Ext H (upd H1 d (.list (aT es))):=Ext.fresh e1 (aI e1 T);have k:(upd H1 d (.list (aT es))) d=some (.list (aT es)):=us;generalize upd H1 d (.list (aT es))=H2 at e2 k;erw[Zh,ZH,ZJ,Zc rfl,<-Aj (λx=>.int (x.oct.length:Nat)) k (dK l rfl) (B.ext e2) (λe x D j L t=>?_) λf J=>?_]
  ·have C:=j;unfold En.o at C;erw[Zm,Zc rfl,bC C rfl,Zb,bt C rfl,<-kM R j (r x D).b (lv m rfl) (λ_=>t) λz=>absurd (r x D).i z]
  ·have e3:Ext H (upd H2 f (.list (xs.map λx=>.int ((x.oct.length:Nat):Int)))):=Ext.fresh e2 (aI e2 J);have G:(upd H2 f (.list (xs.map λx=>.int ((x.oct.length:Nat):Int)))) f=some (.list (xs.map λx=>.int ((x.oct.length:Nat):Int))):=us;have p:(upd H2 f (.list (xs.map λx=>.int ((x.oct.length:Nat):Int)))) d=some (.list (aT es)):=ae (ne_sn k J) k;generalize upd H2 f (.list (xs.map λx=>.int (x.oct.length:Nat)))=H3 at e3 G p;erw[ZJ,Zf rfl rfl,aw (e3 _ _ g) h3 rfl,<-tv (λx=>.int (x.oct.length:Nat)) (e3 _ _ h2) (dK l rfl) (hr.ext e3) (λe x D j L t=>?_) λh F=>?_]
   ·have S:=En.gK (r x D).b.d (r x D).i;erw[ZN,Za,Zz rfl,mw R j (r x D).i (r x D).b.d (lv m rfl),Zb,eZ (dK S rfl),<-t]
   ·have e4:Ext H (upd H3 h (.list (xs.map λx=>.int ((x.oct.length:Nat):Int)))):=Ext.fresh e3 (aI e3 F);erw[RJ (ae (ne_sn G F) G) us (cJ.mpr λv P=>?_)]
    ·erw[ay (cK.mp P),(x _ M)];subst M;rfl
    ·have N:=ae (mo:=.list (xs.map λx=>.int ((x.oct.length:Nat):Int))) (ne_sn p F) p;generalize upd H3 h (.list (xs.map λx=>.int (x.oct.length:Nat)))=H4 at e4 N;erw[Zi,Ze,Zd,Zt,Zq,Zr rfl,Za,Zf rfl rfl,aw (e4 _ _ g) h3 rfl,ZF rfl,DJ R N (e4 _ _ h2) (B.ext e4) (hr.ext e4) r l O (lv m rfl),<-bH e4 q]
theorem NR(C:Cells H g):∀{es:List Addr},(∀e∈es,g.R e=4)->dT H es (es.map g.en)/\j7 H (es.map g.mt) (es.map g.en)/\∀x∈es.map g.en,x.Good
 |[],_=>⟨trivial,trivial,λ_ h=>nomatch h⟩
 |e::es,h=>by
  erw[cA (NR C λd f=>h d (fR f)),(a b c),iu (C.ent e (.inr (h e j4))),(k j _ _ i),<-⟨⟨k,a⟩,⟨j,b⟩,aK i c⟩]
theorem xH(R:Rd af w K)(C:Cells H g)(W:Js H g A off es)(h:es.length<=50)(d:Y y)(e:aB 4 n=true)(q:Q (.bool true) H):aY af w K n 972 [.ref A.wl,.int (y:Int)] H Q X:=by
 erw[cA (NR C W.ER),(a b c),<-K3 R W.hw W.hu W.TS W.Tf a b c (by rw[aq];exact h) d e q]
end
theorem Pr.put{p e r:Addr}(h:Pr H p e r x):Pr (upd (upd H r (.list x'.vs)) e x'.o) p e r x':=by
 erw[cA h.ne,(b a n),<-⟨ae b (ae a h.p),us,ae (aJ n) us⟩]
noncomputable def Gh.wait(g:Gh)(e r:Addr)(x:En):Gh:=
 ⟨λa=>if a=e then 4 else if a=r then 5 else g.R a,λa=>if a=e then r else if a=r then e else g.mt a,λa=>if a=e then x else g.en a⟩
noncomputable def Gh.drop(g:Gh)(e:Addr):Gh:={g with R:=λa=>if a=e then 0 else if a=g.mt e then 0 else g.R a}
def s0(n:Nat):Prop:=n=1\/n=3\/n=6\/11<=n
structure WS(H:Hp)(g:Gh)(H':Hp)(g':Gh):Prop where
 c:Cells H' g'
 k:Claim H' g'
 h:bJ s0 H g H' g'
section
variable{H' cI:Hp}{g':Gh}
theorem WS.ext(S:WS H g H' g')(e:Ext H' cI):WS H g cI g':=⟨S.c.ext e,S.k.ext e,S.h.trans (.ext e)⟩
theorem WS.upd{a:Addr}{y:MO}(S:WS H g H' g')(z:g'.R a=0\/(7<=g'.R a/\g'.R a<=10)):WS H g (upd H' a y) g':=
 ⟨S.c.keep (.upd (λQ=>z.elim (λL=>cH [(zn 1,av),(av,zn 0)] rt Q.1 (aa L)) (λL=>cH [(av,zn 5),(zn 7,av)] rt Q.2 L.1))) (λ_ _ _=>rfl) λ_ _ _=>rfl,S.k.upd,S.h.trans (.upd (by unfold s0;exact λi=>z.elim (λw=>i.elim (λf=>cH [(av,zn 0),(zn 1,av)] rt (aa w) (aa (ao f))) (λf=>f.elim (λb=>cH [(av,zn 0),(zn 3,av)] rt (aa w) (aa (ao b))) (λb=>b.elim (λe=>cH [(av,zn 0),(zn 6,av)] rt (aa w) (aa (ao e))) (λe=>cH [(av,zn 0),(zn 11,av)] rt (aa w) e)))) (λw=>i.elim (λK=>cH [(zn 7,av),(av,zn 1)] rt w.1 (aa K)) (λK=>K.elim (λM=>cH [(zn 7,av),(av,zn 3)] rt w.1 (aa M)) (λM=>M.elim (λd=>cH [(zn 7,av),(av,zn 6)] rt w.1 (aa d)) (λd=>cH [(av,zn 10),(zn 11,av)] rt w.2 d))))))⟩
theorem WS.set{n:Nat}(S:WS H g H' g')(z:g'.R a=0)(f:7<=n/\n<=10)(i:H' a≠none):WS H g H' (g'.set a n):=by
 refine⟨S.c.keep (.set (λX=>cH [(av,zn 0),(zn 1,av)] rt (aa z) X.1)) (λ_ _ _=>rfl) λb h1 h2=>?_,S.k.set i,S.h.trans (.set (by unfold s0;exact λY=>Y.elim (λd=>cH [(av,zn 0),(zn 1,av)] rt (aa z) (aa (ao d))) (λd=>d.elim (λN=>cH [(av,zn 0),(zn 3,av)] rt (aa z) (aa (ao N))) (λN=>N.elim (λL=>cH [(av,zn 0),(zn 6,av)] rt (aa z) (aa (ao L))) (λL=>cH [(av,zn 0),(zn 11,av)] rt (aa z) L)))))⟩
 by_cases e:b=a
 ·rw[e,gM] at h2;exact aS ((cH [(zn 7,av),(av,zn 5)] rt f.1 h2).elim) ((cH [(zn 7,av),(av,zn 5)] rt f.1 h2).elim)
 ·exact(fp e).symm
theorem Ke(n:e≠r):(g.wait e r x).R e=4/\(g.wait e r x).R r=5/\(g.wait e r x).mt e=r/\(g.wait e r x).mt r=e/\(g.wait e r x).en e=x:=by
 refine⟨if_pos rfl,?_,if_pos rfl,?_,if_pos rfl⟩
 ·show(if r=e then 4 else if r=r then 5 else _)=5;erw[aj (if_neg (aJ n)),aj (if_pos rfl)];rfl
 ·show(if r=e then r else if r=r then e else _)=e;erw[aj (if_neg (aJ n)),aj (if_pos rfl)];rfl
theorem bJ.wait{e r:Addr}(C:Claim H g)(d:H e=none)(hr:H r=none)(k:Ext H H')(z:¬s 0):bJ s H g H' (g.wait e r x):=by
 have q:∀a,s (g.R a)->a≠e/\a≠r:=λa h=>⟨λq=>z (c_ (C.fresh d) (c_ q h)),λq=>z (c_ (C.fresh hr) (c_ q h))⟩;refine⟨λa h=>?_,λa h=>?_,λa m _ h=>k a m h⟩
 ·erw[aD (q a h),(c b)];show(if a=e then 4 else if a=r then 5 else g.R a)=g.R a;erw[aj (if_neg c),aj (if_neg b)];rfl
 ·erw[aD (q a h),(c b)];show(if a=e then r else if a=r then e else g.mt a)=g.mt a;erw[aj (if_neg c),aj (if_neg b)];rfl
theorem WS.wait(S:WS H g H' g')(C:H' e=none)(hr:H' r=none)(k:Ext H' cI)(h1:cI e=some x.o)(h2:cI r=some (.list x.vs))(K:x.Good):WS H g cI (g'.wait e r x):=by
 have w:=fQ h1 h2 (λz=>by injection z);erw[iu (Ke (g:=g') (x:=x) w),(A u I G F)];have i:bJ (λn=>n≠0) H' g' cI (g'.wait e r x):=.wait S.k C hr k (λh=>h rfl);have b:∀a,a≠e->a≠r->(g'.wait e r x).R a=g'.R a:=λa t s=>by
  show(if a=e then 4 else if a=r then 5 else g'.R a)=g'.R a;erw[aj (if_neg t),aj (if_neg s)];rfl
 refine⟨⟨λd f=>?_,λp j=>?_⟩,⟨λa D q=>?_⟩,S.h.trans (.wait S.k C hr k (by unfold s0;decide))⟩
 ·by_cases q:d=e
  ·replace q:=q.symm;subst q;erw[aj F,aj I,aj A,aj u,aj G,<-⟨h1,h2,rfl,rfl,K⟩]
  ·have v:d≠r:=λz=>by rw[z,u] at f;exact f.elim (λM=>Ef [(zn 5,zn 1)] rt (aa M)) (λM=>Ef [(zn 5,zn 4)] rt (aa M))
   rw[b d q v] at f;erw[iu (S.c.ent d f),(Q P E O N)];have l:g'.R d≠0:=by exact WM f
   have B:g'.R (g'.mt d)≠0:=by exact Vi E
   have L:(g'.wait e r x).en d=g'.en d:=if_neg q;erw[aj (i.m d l),aj (i.r d l),aj (i.r _ B),aj (i.m _ B),aj L,<-⟨k _ _ Q,k _ _ P,E,O,N⟩]
 ·have J:p≠e:=λz=>by rw[z,A] at j;exact Ef [(zn 4,zn 3)] rt (aa j)
  have v:p≠r:=λz=>by rw[z,u] at j;exact Ef [(zn 5,zn 3)] rt (aa j)
  rw[b p J v] at j;erw[ay (S.c.pr p j),(d f y)];have l:g'.R d≠0:=by exact UK f rfl
  exact⟨d,(i.r d l).trans f,by erw[aj (i.m d l),<-k _ _ y]⟩
 ·by_cases t:a=e
  ·rw[t,h1] at q;injection q
  ·by_cases s:a=r
   ·rw[s,h2] at q;injection q
   ·rw[b a t s] at D;exact S.k.c a D (aI k q)
theorem qf(h1:a≠e)(h2:a≠g.mt e):(g.drop e).R a=g.R a:=by
 show(if a=e then 0 else if a=g.mt e then 0 else g.R a)=g.R a;erw[aj (if_neg h1),aj (if_neg h2)];rfl
theorem MS:(g.drop e).R e=0:=if_pos rfl
theorem CT:(g.drop e).R a=0\/(a≠e/\a≠g.mt e):=by
 by_cases h1:a=e
 ·exact .inl (aj h1 MS)
 ·by_cases h2:a=g.mt e
  ·erw[.inl];show(if a=e then 0 else if a=g.mt e then 0 else g.R a)=0;erw[aj (if_neg h1),aj (if_pos h2)];rfl
  ·exact .inr ⟨h1,h2⟩
theorem bJ.drop(C:Cells H g)(b:g.R e=4)(c:¬s 4)(z:¬s 5):bJ s H g H (g.drop e):=by
 have r:g.R (g.mt e)=5:=by refine' aj ((C.ent e (.inr b)).2.2.1) ?_;refine' aj b ?_;rfl
 exact⟨λa h=>qf (λq=>c (c_ b (c_ q h))) (λq=>z (c_ r (c_ q h))),λ_ _=>rfl,λ_ _ _ h=>h⟩
theorem WS.drop(S:WS H g H' g')(j:g'.R e=4):WS H g H' (g'.drop e):=by
 have r:=(S.c.ent e (.inr j)).2.2.1;have m4:=(S.c.ent e (.inr j)).2.2.2.1;rw[j] at r;refine⟨⟨λd b=>?_,λp m=>?_⟩,⟨λa n=>?_⟩,S.h.trans (.drop S.c j (by unfold s0;decide) (by unfold s0;decide))⟩
 ·rcases CT with q|⟨f,i⟩
  ·exact⟨b.elim (λo=>(cH [(av,zn 0),(zn 1,av)] rt (aa q) (aa (ao o))).elim) (λo=>(cH [(av,zn 0),(zn 4,av)] rt (aa q) (aa (ao o))).elim),⟨b.elim (λL=>(cH [(av,zn 0),(zn 1,av)] rt (aa q) (aa (ao L))).elim) (λL=>(cH [(av,zn 0),(zn 4,av)] rt (aa q) (aa (ao L))).elim),⟨b.elim (λE=>aS ((cH [(av,zn 0),(zn 1,av)] rt (aa q) (aa (ao E))).elim) ((cH [(av,zn 0),(zn 1,av)] rt (aa q) (aa (ao E))).elim)) (λE=>aS ((cH [(av,zn 0),(zn 4,av)] rt (aa q) (aa (ao E))).elim) ((cH [(av,zn 0),(zn 4,av)] rt (aa q) (aa (ao E))).elim)),⟨b.elim (λN=>(cH [(av,zn 0),(zn 1,av)] rt (aa q) (aa (ao N))).elim) (λN=>(cH [(av,zn 0),(zn 4,av)] rt (aa q) (aa (ao N))).elim),b.elim (λM=>(cH [(av,zn 0),(zn 1,av)] rt (aa q) (aa (ao M))).elim) (λM=>(cH [(av,zn 0),(zn 4,av)] rt (aa q) (aa (ao M))).elim)⟩⟩⟩⟩
  ·rw[qf f i] at b⊢;erw[iu (S.c.ent d b),(y x t s w)];have v:g'.mt d≠e:=λz=>by rw[z] at t;lia
   have u:g'.mt d≠g'.mt e:=λz=>f (c_ s (aj z (aj m4 rfl)));exact⟨y,x,(qf v u).trans t,s,w⟩
 ·rcases CT with q|⟨f,i⟩
  ·exact(cH [(av,zn 0),(zn 3,av)] rt (aa q) (aa (ao m))).elim
  ·rw[qf f i] at m;erw[ay (S.c.pr p m),(d b l),<-⟨d,(qf (λz=>by rw[z] at b;exact cH [(av,zn 1),(zn 4,av)] rt (aa b) (aa (ao j))) (λz=>by rw[z] at b;exact cH [(av,zn 1),(zs (zn 4),av)] rt (aa b) (aa (ao r)))).trans b,l⟩]
 ·rcases CT with q|⟨f,i⟩
  ·exact absurd q n
  ·rw[qf f i] at n;exact S.k.c a n
theorem Inv.ws(I:Inv nz pl ga ka wa t H g)(S:WS H g H' g')(l:t<=t')(m:∃A o es,A.wl=wa/\Js H' g' A o es/\WP o es t'):Inv nz pl ga ka wa t' H' g':=by
 erw[iN I.msg,(A h q r x e1 M p),df I.cmd,(D c e3 u y),bf I.yY,(ts P),<-⟨S.c,S.k,⟨ts,P.keep (S.h.sub λn h=>by unfold s0;exact h.elim (λe=>.inl (e)) (λe=>.inr (e.elim (λf=>.inl (f)) (λf=>.inr (.inl (f))))))⟩,⟨A,h,q,r,x,e1,M.keep (S.h.sub λn h=>by unfold oz at h;unfold s0;exact h.elim (λK=>.inl (K)) (λK=>.inr (K.elim (λL=>.inl (L)) (λL=>.inr (.inr (dJ [(zn 20,av)] (zn 11,av) rt L.1)))))),⟨p.hi,p.zv,p.len,λs v=>?_,p.c⟩⟩,⟨D,c,e3,u.keep (S.h.sub λn h=>by unfold s0;exact .inr (.inr (.inr (h.elim (λN=>dJ [(zn 11,av)] (zn 11,av) rt (aa (ao N))) (λN=>N.elim (λj=>dJ [(zn 12,av)] (zn 11,av) rt (aa (ao j))) (λj=>dJ [(zn 13,av)] (zn 11,av) rt (aa (ao j)))))))),y⟩,m,I.num.keep (S.h.sub λn h=>by unfold s0;exact .inr (.inr (.inr (dJ [(zn 14,av)] (zn 11,av) rt (aa (ao h))))))⟩,dX (p.so s v),(a b c d),<-⟨a,b,gF [(av,zs aW),(aW,bT)] (av,zs bT) rt c l,λi w=>by have:=d i w;exact jU [(cN,ym 200 (ys dW)),(ym 200 dW,ym 200 fU)] (cN,ym 200 (ys fU)) rt this (fq (ax.mpr l) (dZ 200))⟩]
theorem WS.refl{nz:Nz}{pl:Addr}{ga:Addr}{ka:Addr}{wa:Addr}{t:Nat}(I:Inv nz pl ga ka wa t H g):WS H g H g:=⟨I.cells,I.claim,.ext .refl⟩
end
section
variable{G:Hp}
theorem KQ(R:Rd af w K)(h:Pr H p e r x)(g:x.Good)(b:y<2^39)(a:aB 2 n=true)(q:∀v:Int,rE v->Q .none (upd (upd H r (.list (x.d6 0 v).vs)) e (x.d6 0 v).o)):aY af w K n 811 [.ref p,.int 0,.int (y:Int)] H Q X:=by
 erw[R.Gi.to rfl a,(n a)];have h2:([V.ref e,.ref r]).length<=100000:=dc rfl;have h4:x.vs.length<=100000:=dc rfl;erw[aw h.p h2 rfl,aw h.r h4 rfl,Zh,ZT,Zn,Zj rfl rfl,<-fC (λ_=>?_) (λz=>absurd z (dc rfl)),Z2,Zp,Zk,Zq,Zr rfl,Zr rfl,Za,Zq,Zr rfl,Za,Zs rfl rfl,dS rfl (iM b).big rfl,iy R g.i.t (vY b 3) (lv a rfl),(v c),mG R h (dc rfl) (lv a rfl),<-cR Ext.refl (q v ⟨ir,oE c⟩)]
end
structure PW(H:Hp)(g:Gh)(pl:Addr)(ts:List Tr)(B:WbA)(off:Nat)(es:List Addr)(F:Addr)(at_:Nat)(H':Hp)(g':Gh)(ps:List Tr):Prop where
 ws:WS H g H' g'
 p:gu H' g' pl ts
 w:Js H' g' B off es
 f:H' F=some (.list (aT (ps.map (·.p))))
 rf:g'.R F=0
 tr:∀z∈ps,H' z.p=some (.list [.ref z.e,.ref z.r])/\g'.R z.p=0/\g'.R z.e=4/\g'.mt z.e=z.r/\z.p≠F
 nd:(es++ps.map (·.e)).Nodup
 ix:∀z,ps.head?=some z->(g'.en z.e).i=(at_:Int)
theorem CC(h1:a≠e)(h2:a≠r):(g.wait e r x).R a=g.R a:=by
 show(if a=e then 4 else if a=r then 5 else g.R a)=g.R a;erw[aj (if_neg h1),aj (if_neg h2)];rfl
theorem PW.add{t:Tr}(P:PW H g pl ts B off es F at_ H' g' d)(c:Fr H' t)(e1:Ext H' H1)(j:Pr H1 t.p t.e t.r x)(Q:x.Good)(N:d=[]->x.i=(at_:Int)):
  PW H g pl ts B off es F at_ (upd H1 F (.list (aT ((d++[t]).map (·.p))))) (g'.wait t.e t.r x) (d++[t]):=by
 rcases P with⟨ws,p,w,f,rf,tr,nd,ix⟩
 erw[cA j.ne,(M L K),iu (Ke (g:=g') (x:=x) K),(I X G W E)];have o:bJ (λn=>n≠0) H' g' H1 (g'.wait t.e t.r x):=.wait ws.k c.e c.r e1 (λh=>h rfl);have l:(g'.wait t.e t.r x).R F=0:=(CC (ne_sn f c.e) (ne_sn f c.r)).trans rf;have C:∀{s:Nat->Prop},¬s 0->bJ s H' g' (upd H1 F (.list (aT ((d++[t]).map (·.p))))) (g'.wait t.e t.r x):=λz=>(o.sub λn h=>λq=>z (q▸h)).trans (.upd (aj l z));have e4:=ws.k.fresh c.e;refine⟨(ws.wait c.e c.r e1 j.e j.r Q).upd (.inl l),p.keep (C (dc rfl)),w.keep (C (by unfold sW;decide)),us,l,λz hz=>?_,?_,λz hz=>?_⟩
 ·rcases cC.mp hz with hz|hz
  ·erw[iu (tr z hz),(v V u U D),<-⟨ae D (e1 _ _ v),(CC (ne_sn v c.e) (ne_sn v c.r)).trans V,(o.r _ (UK u rfl)).trans u,(o.m _ (UK u rfl)).trans U,D⟩]
  ·erw[aj (aR.mp hz)];have A:=aJ (ne_sn f c.p);exact⟨ae A j.p,(CC M L).trans (ws.k.fresh c.p),I,G,A⟩
 ·erw[aj aX];rewrite[<-aC];refine iH.mpr ⟨nd,fA _ _,λa ha b O q=>?_⟩;rw[aR.mp O] at q;rcases cC.mp ha with ha|ha
  ·have:=w.ER a ha;rw[q,e4] at this;injection this
  ·erw[ay (cK.mp ha),(z hz T)];subst T;have:=(tr z hz).2.2.1;rw[q,e4] at this;injection this
 ·induction d using lcs with
  |nil=>
   obtain rfl:=bV hz
   erw[aj E,<-N rfl]
  |cons y d=>
   obtain rfl:=bV hz
   have J:y.e≠t.e:=λq=>by
    have:=(tr y j4).2.2.1;rw[q,e4] at this;injection this
   have S:(g'.wait t.e t.r x).en y.e=g'.en y.e:=if_neg J;erw[aj S,<-ix y rfl]
section
variable{G:Hp}
def QD:List S:=[.bq 7 (.sub bA (.bin .Mod (.bin .Add dB jS) (.call .len [bA]))),.bq 8 (.lst [(.bp (bw AZ 0) 10 []),(.call .list [(bw AZ 1)])]),.dm (.not (bD 818 [Dr])) [dj (.cst (.bool false))] [],.expr (bD 804 [Dr,(ek 1),(.bin .Add fB jS)]),.expr (bD 811 [Dr,(ek 0),(.bin .Add dP (.bin .Mult (ek 5) jS))]),.expr (.bp fG 0 [Dr])]
theorem JE(R:Rd af w K)(P:PW H g pl ts B off es F at_ H' g' ps)(hy:y<2^38)(ha:at_<2^60)(l:ps.length<=1)(G:ρ 1=some (.ref pl))(r2:ρ 2=some (.int (j:Int)))(r3:ρ 3=some (.int (y:Int)))(r4:ρ 4=some (.int (at_:Int)))(Y:ρ 5=some (.ref F))(t:ρ 6=some (.int (ps.length:Int)))(m:aB 6 n=true)(q:∀k g2 z W U,PW H g pl ts B off es F at_ k g2 (ps++[z])->M .next (upd (upd ρ 7 W) 8 U) k):bO af w K aG n QD ρ H' M X:=by
 have jl:=P.p.len;have E:=nL.mpr P.p.ne;have I:(aT (ts.map (·.p))).length<=100000:=by rw[bG,aq];exact dK jl rfl
 have Om:(j+ps.length)%ts.length<ts.length:=fP _ E;erw[fc (oa P.p Om),(z QT _ hz T),aD (T.pr P.ws.c),(b C)];have h2:([V.ref z.e,.ref z.r]).length<=100000:=dc rfl;generalize hx:g'.en z.e=x at b C;have h4:x.vs.length<=1000:=dc rfl;have O:=b.e;unfold En.o at O;unfold QD;erw[Zg,Z7,<-Zc G ?_,ZC,<-Zs r2 t ?_,Zw,<-ZG G ?_,dV P.p.h I];rewrite[bG,aq];erw[aj (show j+ps.length=((j+ps.length:Nat):Int) by exact PS),dI (d3.mpr E),aw P.p.h I (fh hz),Zg,eP rfl,Za,Zm,Zf rfl rfl,aw b.p h2 rfl,bC O rfl,Zb,bt O rfl,oQ R b.e (lv m rfl),(e J)];have D:Ext H' (upd H' e x.o):=Ext.fresh Ext.refl J;erw[Za,Z6,Za,Zf rfl rfl,aw (D _ _ b.p) h2 rfl,Zb,pI (D _ _ b.r) h4,(r hr),Zb,(p u),cA (CL (c:=λ_=>x.o) J hr u),(i Q L)];generalize (upd (upd (upd H' e x.o) r (.list x.vs)) p (.list [.ref e,.ref r]))=H1 at Q L;erw[Zh,ZP,Zaa rfl,mU R L C (lv m rfl),Zx,Zi,Ze,Zd,Zk,Zq,Zr rfl,Zr rfl,Za,<-Zs r4 t ?_,Zw,Zb,aj (show at_+ps.length=((at_+ps.length:Nat):Int) by exact PS),mG R L (dc rfl) (lv m rfl)];have A:rE ((at_+ps.length:Nat):Int):=⟨ir,ax.mpr (fe [(zs av,zn 1152921504606846976),(aW,zn 1)] (zp av aW,zn 18446744073709551615) rt ha l)⟩;have a:=L.put (x':=x.d6 1 ((at_+ps.length:Nat):Int));have N:=C.d6 1 A;have S:Ext H' (upd (upd H1 r (.list (x.d6 1 ((at_+ps.length:Nat):Int)).vs)) e (x.d6 1 ((at_+ps.length:Nat):Int)).o):=Ext.fresh (Ext.fresh Q i.r) i.e;generalize (upd (upd H1 r (.list (x.d6 1 ((at_+ps.length:Nat):Int)).vs)) e (x.d6 1 ((at_+ps.length:Nat):Int)).o)=k at a S;erw[Zk,Zq,Zr rfl,Zr rfl,Za,<-ZI r3 ?_,ZI rfl,<-Zc t ?_,<-⟨du (dc rfl),du (by rw[cT];exact aM l (dc rfl)),?_⟩,Zw,Zb,aj (show(y:Int)+(5:Int)*(ps.length:Int)=((y+5*ps.length:Nat):Int) by exact rfl),KQ R a N (fe [(zs av,zn 274877906944),(zm 5 aW,zm 5 (zn 1))] (zs (zp av (zm 5 aW)),zn 549755813888) rt hy (aP 5 l)) (lv m rfl),(v hv)];have d:=a.put (x':=(x.d6 1 ((at_+ps.length:Nat):Int)).d6 0 v);have gW:=N.d6 0 hv;have s:Ext H' (upd (upd k r (.list ((x.d6 1 ((at_+ps.length:Nat):Int)).d6 0 v).vs)) e ((x.d6 1 ((at_+ps.length:Nat):Int)).d6 0 v).o):=Ext.fresh (Ext.fresh S i.r) i.e;generalize (upd (upd k r (.list ((x.d6 1 ((at_+ps.length:Nat):Int)).d6 0 v).vs)) e ((x.d6 1 ((at_+ps.length:Nat):Int)).d6 0 v).o)=H3 at d s;erw[Zk,Zm,<-Zc Y ?_,<-oW (s _ _ P.f) ⟨rfl,?_⟩,ZF rfl,qQ (s _ _ P.f) (by rw[bG,aq];exact dK l rfl)];have e2:aT (ps.map (·.p))++[V.ref p]=aT ((ps++[(⟨p,e,r⟩:Tr)]).map (·.p)):=by unfold aT;refine' aj aX ?_;refine' aj aX ?_;rfl
 erw[aj e2,Ze];exact q _ _ ⟨p,e,r⟩ _ _ (P.add i s d gW λh=>by
  erw[aj h];show((at_+0:Nat):Int)=_;rw[Nat.add_zero])
end
theorem WS.off(S:WS H g H' g')(z:7<=g'.R a/\g'.R a<=10)(k:∀b mo,b≠a->H' b=some mo->cI b=some mo)(i:cI a≠none):WS H g cI g':=by
 have d:∀{s:Nat->Prop},¬s (g'.R a)->bJ s H' g' cI g':=λn=>⟨λ_ _=>rfl,λ_ _=>rfl,λb mo h q=>k b mo (λe=>n (e▸h)) q⟩;refine⟨S.c.keep (d (λW=>cH [(zn 7,av),(av,zn 5)] rt z.1 W.2)) (λ_ _ _=>rfl) λ_ _ _=>rfl,⟨λb f q=>?_⟩,S.h.trans (d (by unfold s0;exact λY=>Y.elim (λJ=>cH [(zn 7,av),(av,zn 1)] rt z.1 (aa J)) (λJ=>J.elim (λM=>cH [(zn 7,av),(av,zn 3)] rt z.1 (aa M)) (λM=>M.elim (λL=>cH [(zn 7,av),(av,zn 6)] rt z.1 (aa L)) (λL=>cH [(av,zn 10),(zn 11,av)] rt z.2 L)))))⟩
 by_cases e:b=a
 ·exact i (e▸q)
 ·cases h:H' b with
  |none=>exact S.k.c b f h
  |some mo=>rw[k b mo e h] at q;injection q
theorem NZ(l:List Addr)(k:Nat):cut (aT l) (some (k:Int)) none=aT (l.drop k):=by
 unfold cut aT;dsimp only;rewrite[aL];erw[aj xf];rfl
section
variable{G:Hp}
def QI:List S:=[.dm (.not (bD 972 [aN,(.bin .FloorDiv dP (ek 14))])) [dj (.cst (.bool false))] [],.dm (.cmp .Gt (.bin .Mod (.bin .FloorDiv dP (ek 14)) (ek 3)) (ek 0)) [dj (.cst (.bool true))] [],.bq 10 (.lst [(bw (.bp (bw aN 0) 17 [fB,(.bin .Add fB (ek 1))]) 0),(.call .list [(bw w_ 0)])]),.expr (.bp (bw aN 0) 15 [fB,(bw (bw w_ 0) 0)]),.hK aN (ek 2) (.A0 (bw aN 2) (some (.bin .Sub (.bin .Add fB (ek 1)) (bw aN 1))) none),.hK aN (ek 1) (.bin .Add fB (ek 1)),.expr (bD 811 [Ei,(.bin .Mod (.bin .FloorDiv dP (ek 42)) (ek 4)),(.bin .FloorDiv dP (ek 168))]),dj (.and [(bD 832 [Ei]),(bD 972 [aN,(.bin .FloorDiv dP (ek 42))])])]
theorem BR(R:Rd af w K)(I:Inv nz pl ga ka A.wl t H g)(S:WS H g H3 g3)(W:Js H3 g3 A off es)(N:t<=20)(p1:WP off es (t+1))(ho:off<=2^57+100*t)(hk:es[k]?=some f0)(hr:H3 rw_=some (.list (aT (r0::rs))))(e0:r0=g3.mt f0)(l0:ρ 0=some (.ref A.wl))(l3:ρ 3=some (.int (y:Int)))(l4:ρ 4=some (.int ((off+k:Nat):Int)))(l9:ρ 9=some (.ref rw_))(B:y<2^39)(Ed:rs.length<=100)(hn:aB 7 n=true)(q:∀H' g',Inv nz pl ga ka A.wl (t+1) H' g'->Q (.bool true) H'):bO af w K aG n QI ρ H3 (dE Q) (cG X):=by
 have C:=p1.len;have Yr:es.length<=50:=by exact fe [(av,zm 2 (zs aW)),(zm 2 aW,zm 2 (zn 20))] (av,zn 50) rt C (aP 2 N)
 have Ph:k<es.length:=by
  by_cases h:k<es.length
  ·exact h
  ·rw[uc (ax.mp (oY [(cN,dW)] (cN,dW) rt (ax.mpr (bW h))))] at hk;injection hk
 have hf0:f0∈es:=JM hk;have P:=W.ER f0 hf0;erw[iu (S.c.ent f0 (.inr P)),(c1 c2 c3 c4 c5)];rw[P] at c3;generalize hx:g3.en f0=x at c1 c2 c5;have h3:∀(u:Addr)(o:Int)(v:Addr),([V.ref u,.int o,.ref v]:List V).length<=100000:=λ_ _ _=>by show 3<=100000;decide
 have pB:=W.hu;unfold B4 at pB;have hmr:∀l:List Addr,(aT (l.map g3.mt)).length=l.length:=λl=>by rw[bG,aq]
 unfold QI;erw[Zh,ZP,Zab,<-Zr l0 ?_,Za,Zv rfl,<-Zc l3 ?_,dS (y:=14) rfl (iM B).big rfl,Zb,xH R S.c W Yr (iM (vY B 14)) (lv hn rfl),Zx,Zi,Ze,Zd,Zh,Zy rfl,Zv rfl,Zv rfl,<-Zc l3 ?_,dS (y:=14) rfl (iM B).big rfl,dI (y:=3) rfl,<-j_ (λe=>?_) (λe=>?_)]
 ·erw[Zp,ZO rfl,Z9,<-bH Ext.refl (q _ _ (I.ws S (qp _) ⟨A,off,es,rfl,W,p1⟩))]
 ·erw[Zi,Ze,Zd,Zg,eP rfl,Za,Zo rfl,Zm,Zo rfl,<-Zc l0 ?_,aw (v:=.ref A.u) W.hw (h3 _ _ _) rfl,<-fj pB ⟨rfl,?_⟩,<-Zr l4 ?_,Za,Zv rfl,<-Zc l4 ?_,Zw,Zb,bt pB rfl,aj (show((off+k:Nat):Int)+1=((off+k+1:Nat):Int) by exact OQ),vh R W.hu W.TS (by exact VQ C N) (by exact vt) (by exact vt) (gF [(zs av,aW)] (zs (zp bT av),zp bT aW) rt Ph) (lv hn rfl),(c hc)];have ec:(es.take (off+k+1-off)).drop (off+k-off)=[f0]:=by
   erw[aj (show off+k+1-off=k+1 by exact aS (gF [(zp av aW,zs (zp aW bT))] (av,zs bT) rt (aa (bM (fe [] (av,zs (zp av aW)) rt)))) (gF [(zs (zp av aW),zp bT av)] (zs aW,bT) rt (aa (ao (bM (fe [] (av,zs (zp av aW)) rt))))))];rewrite[jX];erw[aj iG,aj hk,aj (List.drop_append_of_le_length (by erw[aj dO,<-aa (fE (gg Ph)).symm])),aj List.drop_take_self];rfl
  erw[aj ec];have U:Ext H3 (upd H3 c (.list (aT [f0]))):=Ext.fresh Ext.refl hc;erw[aw (v:=.ref f0) us (dc rfl) rfl];generalize upd H3 c (.list (aT [f0]))=H4 at U;erw[Za,Z6,Za,Zo rfl,<-Zc l9 ?_,aw (v:=.ref r0) (U _ _ hr) (by rw[bG];exact OJ Ed rfl) rfl,Zb,aj e0,pI (U _ _ c2) (dc rfl),(r hr'),Zb,(p hp)];have x2:Ext H3 (upd H4 r (.list x.vs)):=Ext.fresh U (aI U hr');have f:Ext H3 (upd (upd H4 r (.list x.vs)) p (.list [.ref f0,.ref r])):=Ext.fresh x2 (aI x2 hp);have zr:g3.R r=0:=S.k.fresh (aI U hr');have zp:g3.R p=0:=S.k.fresh (aI x2 hp);have npr:r≠p:=aJ (bo hp).2;have Y:Pr (upd (upd H4 r (.list x.vs)) p (.list [.ref f0,.ref r])) p f0 r x:=⟨us,f _ _ c1,ae npr us⟩;generalize upd (upd H4 r (.list x.vs)) p (.list [.ref f0,.ref r])=H5 at f Y;have S5:=S.ext f;have W5:=W.keep (.ext f);erw[Zk,Zm,Zo rfl,<-Zc l0 ?_,aw (v:=.ref A.u) W5.hw (h3 _ _ _) rfl,<-fj (f _ _ pB) ⟨rfl,?_⟩,<-Zr l4 ?_,Za,Zo rfl,Zo rfl,<-Zc l9 ?_,aw (v:=.ref r0) (f _ _ hr) (by rw[bG];exact OJ Ed rfl) rfl,aj e0,aw (v:=.int x.t) (f _ _ c2) (dc rfl) rfl,Zb,bt (f _ _ pB) rfl,C9 R W5.hu W5.TS hk Y.e (by exact VQ C N) (lv hn rfl),(E D L Bk US hu6)];have nwu:A.wl≠A.u:=bX W.rw W.ru (dc rfl);have mu6:D A.u≠none:=by refine' aj hu6 ?_;exact λz=>nomatch z
  have S6:=S5.off (a:=A.u) (by erw[aj W.ru];decide) L mu6;have yf:∀{a:Addr} {i:Nat},g3.R a=i->i≠8->a≠A.u:=λh1 h2=>bX h1 W.ru h2;have J6:g3.R E=0:=S5.k.fresh Bk;have M:=L _ _ nwu W5.hw;have aa0:=L _ _ (yf W.Y5 (dc rfl)) W5.Tf;have j:Pr D p f0 r x:=⟨L _ _ (yf zp (dc rfl)) Y.p,L _ _ (yf P (dc rfl)) Y.e,L _ _ (yf zr (dc rfl)) Y.r⟩;have f6:∀a,D a=none->H3 a=none:=λa ha=>by
   cases h:H5 a with
   |none=>exact aI f h
   |some mo=>
    by_cases e:a=A.u
    ·exact absurd ha (e▸mu6)
    ·rw[L _ _ e h] at ha;injection ha
  erw[ZK,Z8,Zo rfl,<-Zc l0 ?_,aw (v:=.ref A.w2) M (h3 _ _ _) rfl,Z5,ZC,Zv rfl,<-Zc l4 ?_,Zw,Zo rfl,<-Zc l0 ?_,aw M (h3 _ _ _) rfl,Z3,hY,ZW,aj (show((off+k:Nat):Int)+1-(off:Int)=((k+1:Nat):Int) by exact WK),qh aa0 ⟨by exact Be,by exact bb.mpr (bW (Mine.lq (Mine.Xi _ _ _) [((Mine.zp Mine.av (Mine.zn 1)),Mine.aW),(Mine.aW,(.mulL 2 (Mine.zp Mine.bT (Mine.zn 1)))),(.mulL 2 Mine.bT,.mulL 2 (Mine.zn 20)),((Mine.zp (Mine.zn 1152921504606846976) (Mine.zn 1)),(Mine.zp (Mine.zp Mine.av (Mine.zn 1)) (Mine.zn 1)))] rt Ph C (aP 2 N)))⟩ trivial (by rw[hmr];exact bW (Mine.lq (Mine.J6 _ _) [(Mine.av,(.mulL 2 (Mine.zp Mine.aW (Mine.zn 1)))),(.mulL 2 Mine.aW,.mulL 2 (Mine.zn 20)),((Mine.zp (Mine.zn 100000) (Mine.zn 1)),Mine.av)] rt C (aP 2 N))),(d hd)];rewrite[NZ];erw[c_ xf];have T:g3.R d=0:=S.k.fresh (f6 _ hd);have ndc:d≠E:=aJ (ne_sn US hd);have x6:Ext D (upd D d (.list (aT ((es.drop (k+1)).map g3.mt)))):=Ext.fresh Ext.refl hd;have O:(upd D d (.list (aT ((es.drop (k+1)).map g3.mt)))) d=some (.list (aT ((es.drop (k+1)).map g3.mt))):=us;generalize upd D d (.list (aT ((es.drop (k+1)).map g3.mt)))=H7 at x6 O;erw[<-Zc l0 ?_,ZA,i_ (x6 _ _ M) (h3 _ _ _) (dc rfl) (dc rfl),ZK,Zv rfl,<-Zc l4 ?_,Zw,<-Zc l0 ?_,ZA,i_ us (h3 _ _ _) (dc rfl) (dc rfl)];rewrite[bR];erw[aj (show((off+k:Nat):Int)+1=((off+k+1:Nat):Int) by exact OQ)];show bO af w K aG n _ _ (upd H7 A.wl (.list [.ref A.u,.int ((off+k+1:Nat):Int),.ref d])) _ _;have S7:WS H g (upd H7 A.wl (.list [.ref A.u,.int ((off+k+1:Nat):Int),.ref d])) ((g3.set E 9).set d 10):=by
   have a:=(S6.set (a:=E) (n:=9) J6 (dc rfl) (by erw[aj US,<-λz=>nomatch z])).ext x6;have b:=a.set (a:=d) (n:=10) ((fp ndc).trans T) (dc rfl) (by erw[aj O,<-λz=>nomatch z]);erw[<-b.upd (.inr ?_),aj (fp (λe=>by have:=W.rw;rw[e,T] at this;injection this)),aj (fp (λe=>by have:=W.rw;rw[e,J6] at this;injection this)),aj W.rw]
   decide
  have m:∀a,g3.R a≠0->((g3.set E 9).set d 10).R a=g3.R a:=λa ha=>(fp (λe=>ha (by erw[aj e,aj T];rfl))).trans (fp (λe=>ha (aj e (aj J6 rfl))));have rf7:=(m _ (by erw[aj P];decide)).trans P;have S8:=S7.drop rf7;have nw:∀a,g3.R a≠7->a≠A.wl:=λa h e=>h (aj e (aj W.rw rfl));have st:∀a mo,g3.R a≠7->D a=some mo->(upd H7 A.wl (.list [.ref A.u,.int ((off+k+1:Nat):Int),.ref d])) a=some mo:=λa mo h q=>ae (nw a h) (x6 _ _ q);have dn:∀a,a≠f0->a≠g3.mt f0->(((g3.set E 9).set d 10).drop f0).R a=((g3.set E 9).set d 10).R a:=λa h1 h2=>qf h1 h2;have nf:∀a,g3.R a≠4->g3.R a≠5->a≠f0/\a≠g3.mt f0:=λa h1 h2=>⟨λe=>h1 (aj e (aj P rfl)),λe=>h2 (aj e (aj c3 rfl))⟩;have W8:Js (upd H7 A.wl (.list [.ref A.u,.int ((off+k+1:Nat):Int),.ref d])) (((g3.set E 9).set d 10).drop f0) ⟨A.wl,A.u,E,d⟩ (off+k+1) (es.drop (k+1)):=by
   have h7:=nf A.wl (by erw[aj W.rw];decide) (by erw[aj W.rw];decide);have h8:=nf A.u (by erw[aj W.ru];decide) (by erw[aj W.ru];decide);have h9:=nf E (by erw[aj J6];decide) (by erw[aj J6];decide);have Qb:=nf d (by erw[aj T];decide) (by erw[aj T];decide);refine⟨us,st _ _ (by erw[aj W.ru];decide) hu6,st _ _ (by erw[aj J6];decide) US,ae (nw d (by erw[aj T];decide)) O,λe he=>?_,W.nd.sublist (List.drop_sublist _ _),?_,?_,?_,?_⟩
   ·have rA:=W.ER e (JI he);have nef:e≠f0:=λq=>by
     have:=W.nd;rw[<-ug (k+1) es,iG,hk] at this;exact(iH.mp this).2.2 f0 (cC.mpr (.inr j4)) e he q.symm
    erw[aj (dn e nef (λq=>by rw[q,c3] at rA;cases rA)),aj (m _ (by erw[aj rA];decide)),aj rA];rfl
   ·erw[aj (dn _ h7.1 h7.2),aj (m _ (by erw[aj W.rw];decide)),aj W.rw];rfl
   ·erw[aj (dn _ h8.1 h8.2),aj (m _ (by erw[aj W.ru];decide)),aj W.ru];rfl
   ·erw[aj (dn _ h9.1 h9.2),aj (fp (aJ ndc)),aj gM];rfl
   ·erw[aj (dn _ Qb.1 Qb.2),aj gM];rfl
  have J:Pr (upd H7 A.wl (.list [.ref A.u,.int ((off+k+1:Nat):Int),.ref d])) p f0 r x:=⟨st _ _ (by erw[aj zp];decide) j.p,st _ _ (by erw[aj P];decide) j.e,st _ _ (by erw[aj zr];decide) j.r⟩;have F:(((g3.set E 9).set d 10).drop f0).R r=0:=by
   have h:=nf r (by erw[aj zr];decide) (by erw[aj zr];decide);have nrc:r≠E:=ne_sn Y.r Bk;have nrd:r≠d:=ne_sn j.r hd;erw[aj (dn _ h.1 h.2),aj (fp nrd),aj (fp nrc),aj zr];rfl
  have wp:WP (off+k+1) (es.drop (k+1)) (t+1):=⟨by have:=p1.lo;exact bW (Mine.lq (Mine.Xi _ _ _) [((Mine.zn 110),(Mine.zp Mine.av Mine.aW)),((Mine.zp (Mine.zp (Mine.zp (Mine.zp Mine.av Mine.bT) (Mine.zn 1)) Mine.aW) (Mine.zn 1)),(Mine.zn 110))] rt this),by exact bW (Mine.lq (Mine.zc4 _ _ _ _) [((Mine.zp Mine.av (Mine.zn 1)),Mine.aW),(Mine.aW,(.mulL 2 (Mine.zp Mine.bT (Mine.zn 1)))),(.mulL 2 Mine.bT,.mulL 2 (Mine.zn 20)),(Mine.f9,(Mine.zp (Mine.zn 144115188075855872) (.mulL 100 Mine.bT))),((Mine.zp (Mine.zp (Mine.zn 144115188075855872) (.mulL 100 (Mine.zp Mine.bT (Mine.zn 1)))) (Mine.zn 1)),(Mine.zp (Mine.zp Mine.f9 Mine.av) (Mine.zn 1)))] rt Ph C (aP 2 N) ho),by erw[aj ey,<-ax.mp (jU [(cN,dW),(fU,cN)] (fU,dW) rt (ax.mpr C) (ax.mpr (iW _ _)))]⟩;have G:(((g3.set E 9).set d 10).drop f0).R f0=0:=MS;generalize upd H7 A.wl (.list [.ref A.u,.int ((off+k+1:Nat):Int),.ref d])=H8 at S8 W8 J⊢;generalize ((g3.set E 9).set d 10).drop f0=g8 at S8 W8 F G;erw[Zk,Zq,Zr rfl,Za,Zv rfl,Zv rfl,<-Zc l3 ?_,dS (y:=42) rfl (iM B).big rfl,dI (y:=4) rfl,Za,Zv rfl,<-Zc l3 ?_,dS (y:=168) rfl (iM B).big rfl,Zb,HZ R J c5 (by exact Np) (vY B 168) (lv hn rfl),(s gx')];have S9:=(S8.upd (a:=r) (y:=.list s.vs) (.inl F)).upd (a:=f0) (y:=s.o) (.inl G);have W9:Js (upd (upd H8 r (.list s.vs)) f0 s.o) g8 ⟨A.wl,A.u,E,d⟩ (off+k+1) (es.drop (k+1)):=W8.keep ((bJ.upd (by erw[aj F];unfold sW;decide)).trans (bJ.upd (by erw[aj G];unfold sW;decide)));have pr9:=J.put (x':=s);generalize upd (upd H8 r (.list s.vs)) f0 s.o=H9 at S9 W9 pr9;erw[Zt,ZY,Zz rfl,oj R pr9 gx' (lv hn rfl),Zx,Zp,Zq,<-Zr l0 ?_,Za,Zv rfl,<-Zc l3 ?_,dS (y:=42) rfl (iM B).big rfl,Zb,xH R (A:=⟨A.wl,A.u,E,d⟩) S9.c W9 (by erw[aj ey,<-ax.mp (aah [(ym 2 cN,ym 2 (ys dW)),(fU,ym 2 cN),(vF,fU),(ym 2 dW,ym 2 (yn 20)),(U4,vF)] (U4,yn 50) rt (fq (aF (bj _ _)) (dZ 2)) (aF (Int.natCast_mul _ _)) (ax.mpr C) (fq (ax.mpr N) (dZ 2)) (ax.mpr (iW _ _)))]) (iM (vY B 42)) (lv hn rfl),<-bH Ext.refl (q _ _ (I.ws S9 (qp _) ⟨⟨A.wl,A.u,E,d⟩,_,_,rfl,W9,wp⟩))]
end
theorem sT(e:done++v::rest=nk k):v=.int (done.length:Int)/\done.length<k:=by
 have h:done.length<k:=by
  have:=congrArg cF e;unfold nk at this;rw[ah,aU,aq,d7] at this;exact Rq this
 have:(nk k)[done.length]?=some v:=by refine' c_ e ?_;simp
 unfold nk at this;rw[cP,J1 h] at this;exact⟨(bV this).symm,h⟩
theorem Js.re(W:Js H2 g B off es)(f:g.R c=0)(z:g.R d=0)(n:c≠d)(h1:H6 B.wl=some (.list [.ref B.u,.int (Yj:Int),.ref d]))(h2:H6 B.u=some (B4 c Yj))(h3:H6 c=some (.list (aT qo)))(h4:H6 d=some (.list (aT (qo.map g.mt))))(h5:∀e∈qo,g.R e=4)(h6:qo.Nodup):
  Js H6 ((g.set c 9).set d 10) ⟨B.wl,B.u,c,d⟩ Yj qo:=by
 have o:∀a i,g.R a=i->i≠0->((g.set c 9).set d 10).R a=i:=λa i h b=>((fp (λe=>b (c_ h (aj e (aj z rfl))))).trans (fp (λe=>b (c_ h (aj e (aj f rfl)))))).trans h;exact⟨h1,h2,h3,h4,λe j=>o _ _ (h5 e j) (dc rfl),h6,o _ _ W.rw (dc rfl),o _ _ W.ru (dc rfl),(fp n).trans gM,gM⟩
section
variable{G:Hp}
theorem OG(R:Rd af w K)(I:Inv nz pl ga ka wa t H g)(P:gu H g pl ts)(L:t<=20)(hy:y<2^38)(hn:aB 10 n=true)(q:∀H' g',Inv nz pl ga ka wa (t+1) H' g'->Q (.bool true) H'):aY af w K n 977 [.ref wa,.ref pl,.int (j:Int),.int (y:Int)] H Q X:=by
 erw[R.uE.to rfl hn,(n hn),iB I.wait,(A l C eI W p)];subst eI;have jl:=P.len;have J:=p.lo;have hhi:=p.hi;have d4:=p.len;have h3:∀(u:Addr)(o:Int)(v:Addr),([V.ref u,.int o,.ref v]:List V).length<=100000:=λ_ _ _=>by show 3<=100000;decide
 have SI:y%(C.length+2)<C.length+2:=fP _ (dJ [] (zs (zn 0),zk av 2) rt);erw[Zg,ZC,Zv rfl,Zf rfl rfl,aw (v:=.int (l:Int)) W.hw (h3 _ _ _) rfl,Z3,ZI rfl,Zv rfl,ZN,Za,Zf rfl rfl,aw (v:=.ref A.w2) W.hw (h3 _ _ _) rfl,Zb,dV W.Tf (by rw[bG,aq];exact Y1 d4 L rfl)];rw[bG,aq];erw[Zw,aj (show((C.length:Nat):Int)+2=((C.length+2:Nat):Int) by exact rfl),dI (d3.mpr (rD (hX _))),Zw,Zg,eP rfl,Zb,aj (show(l:Int)-1+((y%(C.length+2):Nat):Int)=((l-1+y%(C.length+2):Nat):Int) by exact da (zC [(.sub cN (yn 1),dW),(yp dW fU,vF)] (yp (.sub cN (yn 1)) fU,vF) rt (aF (ao (cW (ax.mp (jU [(cN,yp dW fU),(yn 110,cN),(fU,yn 20)] (yn 1,dW) rt (aF (bj _ _)) (ax.mpr J) (ax.mpr L)))))) (aF (ao (bj _ _)))) (zC [(cN,.sub dW (yn 1)),(fU,yp cN vF)] (fU,yp (.sub dW (yn 1)) vF) rt (aF (cW (ax.mp (jU [(cN,yp dW fU),(yn 110,cN),(fU,yn 20)] (yn 1,dW) rt (aF (bj _ _)) (ax.mpr J) (ax.mpr L))))) (aF (bj _ _))))];generalize Om:l-1+y%(C.length+2)=at_;intro F hF;have zF:g.R F=0:=I.claim.fresh hF;have x1:Ext H (upd H F (.list (aT ([].map λz:Tr=>z.p)))):=Ext.fresh Ext.refl hF;have P0:PW H g pl ts A l C F at_ (upd H F (.list (aT ([].map λz:Tr=>z.p)))) g []:=⟨(WS.refl I).ext x1,P.keep (.ext x1),W.keep (.ext x1),us,zF,(λ_ h=>nomatch h),by erw[aj tp];rewrite[a_];exact W.nd,(λ_ h=>nomatch h)⟩;show bO af w K aG n _ _ (upd H F (.list (aT ([].map λz:Tr=>z.p)))) _ _;generalize (upd H F (.list (aT ([].map λz:Tr=>z.p))))=H1 at P0;erw[oM,ZI rfl,Zv rfl,Zs rfl rfl,dS (y:=7) rfl (iM (b_ hy (dc rfl))).big rfl,dI (y:=2) rfl,Zw,aj (show(1:Int)+((y / 7%2:Nat):Int)=((1+y / 7%2:Nat):Int) by exact Me)];generalize O:1+y / 7%2=k;erw[hY];refine uS (k:=k) (fe [(av,zp (zn 1) aW),(zs aW,zn 2)] (av,zn 1000) rt (aa (ao O)) k_) (λrest ρ H'=>∃done g' D,done++rest=nk k/\done.length=D.length/\PW H g pl ts A l C F at_ H' g' D/\ρ 0=some (.ref A.wl)/\ρ 1=some (.ref pl)/\ρ 2=some (.int (j:Int))/\ρ 3=some (.int (y:Int))/\ρ 4=some (.int (at_:Int))/\ρ 5=some (.ref F))
  ?_ (λρ H2=>(MU · λdone B D e1 e2 PP N r1 r2 r3 r4 r5=>?_)) λv rest ρ H' ih=>(MU · λdone g' D e1 e2 PP N r1 r2 r3 r4 r5=>?_)
 ·exact⟨[],g,[],rfl,rfl,P0,rfl,rfl,rfl,rfl,rfl,rfl⟩
 ·rw[a_] at e1;have T:D.length=k:=by refine' c_ e2 ?_;refine' aj e1 ?_;unfold nk;rewrite[aq];refine' aj d7 ?_;rfl
  rcases PP with⟨S2,P2,W2,U_,rF,tr,nd,ix⟩
  obtain ⟨f,E,M⟩:∃f E,D=f::E:=by
   induction D using lcs with
   |nil=>simp at T;exact(Gp [(av,zn 0),(zp (zn 1) aW,av)] rt (aa (ao T)) (aa O)).elim
   |cons f E=>exact⟨f,E,rfl⟩
  have pB:=W2.hu;unfold B4 at pB;have trf:=tr f (by erw[aj M,<-j4]);erw[iu (S2.c.ent f.e (.inr trf.2.2.1)),(c1 c2 c3 c4 c5),Zk,Zm,Zo rfl,<-Zc N ?_,aw (v:=.ref A.u) W2.hw (h3 _ _ _) rfl,<-fj pB ⟨rfl,?_⟩,Za,ZJ,<-Zc r5 ?_,<-tF (λz=>.ref z.e) U_ (by exact Qk O T) (λz S G' hG=>?_) λc hc=>?_]
  ·erw[Zf rfl rfl,<-aw (tr z S).1 (dc rfl) rfl hG]
  have ee:D.map (λz=>V.ref z.e)=aT (D.map (·.e)):=by unfold aT;refine' aj eg ?_;rfl
  erw[aj ee];have x2:Ext H2 (upd H2 c (.list (aT (D.map (·.e))))):=Ext.fresh Ext.refl hc;have Bk:(upd H2 c (.list (aT (D.map (·.e))))) c=some (.list (aT (D.map (·.e)))):=us;generalize upd H2 c (.list (aT (D.map (·.e))))=H3 at x2 Bk;have S3:=S2.ext x2;have W3:=W2.keep (.ext x2);erw[Zb,bt (x2 _ _ pB) rfl,Jo R (f0:=f.e) (fs':=E.map (·.e)) (x:=B.en f.e) W3.hu W3.TS Bk (by erw[aj M];rfl) (x2 _ _ c1) (ix f (by erw[aj M];rfl)) (by exact Y1 d4 L rfl) (by rw[aq];exact gF [(av,zp (zn 1) aW),(bT,av),(zs aW,zn 2)] (bT,zn 10) rt (aa (ao O)) (aa T) k_) (QK [(av,zp aW bT),(zs bT,zk f9 2),(zs aW,tf)] (av,zp tf f9) rt (aa (ao Om)) SI (aa (bM (fe [(zn 110,zp av aW),(aW,zn 20)] (zn 1,av) rt J L)))) (lv hn rfl),(d H4 k4 hd N_ V5)];have nwu:A.wl≠A.u:=bX W2.rw W2.ru (dc rfl);have mu4:H4 A.u≠none:=by refine' aj V5 ?_;exact λz=>nomatch z
  have S4:=S3.off (a:=A.u) (by erw[aj W2.ru];decide) k4 mu4;have yf:∀{a:Addr} {i:Nat},B.R a=i->i≠8->a≠A.u:=λh1 h2=>bX h1 W2.ru h2;have zd:B.R d=0:=S3.k.fresh hd;have f4:∀a,H4 a=none->H3 a=none:=λa ha=>by
   cases h:H3 a with
   |none=>rfl
   |some mo=>
    by_cases e:a=A.u
    ·exact absurd ha (e▸mu4)
    ·rw[k4 _ _ e h] at ha;injection ha
  have Wl:=k4 _ _ nwu W3.hw;have aar:=k4 _ _ (yf W2.Y5 (dc rfl)) W3.Tf;have Q9:=k4 _ _ (yf rF (dc rfl)) (x2 _ _ U_);have tr4:∀z∈D,H4 z.p=some (.list [.ref z.e,.ref z.r]):=λz S=>k4 _ _ (yf (tr z S).2.1 (dc rfl)) (x2 _ _ (tr z S).1);erw[Zg,ZJ,<-Zc r5 ?_,<-tF (λz=>.ref z.r) Q9 (by exact Qk O T) (λz S G' hG=>?_) λb hb=>?_]
  ·erw[Zf rfl rfl,<-aw (tr4 z S) (dc rfl) rfl hG]
  have er:D.map (λz=>V.ref z.r)=aT (f.r::E.map (·.r)):=by unfold aT;refine' aj M ?_;simp
  have em:(D.map (·.e)).map B.mt=f.r::E.map (·.r):=by
   erw[aj eg];have:=dQ λz S=>(tr z S).2.2.2.1;erw[aj this,aj M];rfl
  erw[aj er];have zb:B.R b=0:=S4.k.fresh hb;have nbd:d≠b:=ne_sn N_ hb;have G:Ext H4 (upd H4 b (.list (aT (f.r::E.map (·.r))))):=Ext.fresh Ext.refl hb;have XG:(upd H4 b (.list (aT (f.r::E.map (·.r))))) b=some (.list (aT (f.r::E.map (·.r)))):=us;generalize upd H4 b (.list (aT (f.r::E.map (·.r))))=H5 at G XG;have S5:=S4.ext G;have ER:∀m,∀e∈C.take m++D.map (·.e),B.R e=4:=λm e he=>by
   rcases cC.mp he with he|he
   ·exact W2.ER e (mr he)
   ·erw[ay (cK.mp he),(z S iL)];subst iL;exact(tr z S).2.2.1
  have UI:∀m,(C.take m++D.map (·.e)).Nodup:=λm=>nd.sublist ((List.take_sublist m C).append_right _);have nw:∀a,B.R a≠7->a≠A.wl:=λa h e=>h (aj e (aj W2.rw rfl));erw[Zh,ZH,<-Zc r4 ?_,Zo rfl,<-Zc N ?_,aw (v:=.int (l:Int)) (G _ _ Wl) (h3 _ _ _) rfl,<-DV (λe=>?_) (λe=>?_)]
  ·have hle:at_<=l:=by exact Rh e
   rw[show at_-l=0 by exact VT e] at N_;have hmn:min l at_=at_:=rC hle;rw[hmn] at V5;erw[Zp,ZK,<-Zc r4 ?_,<-Zc N ?_,ZA,i_ (G _ _ Wl) (h3 _ _ _) (dc rfl) (dc rfl),ZK,Zc rfl,<-Zc N ?_,ZA,i_ us (h3 _ _ _) (dc rfl) (dc rfl)];rw[bR];have g1:∀a mo,B.R a≠7->H4 a=some mo->(upd H5 A.wl (.list [.ref A.u,.int (at_:Int),.ref b])) a=some mo:=λa mo h q=>ae (nw a h) (G _ _ q);have gb:(upd H5 A.wl (.list [.ref A.u,.int (at_:Int),.ref b])) b=some (.list (aT (f.r::E.map (·.r)))):=ae (nw b (by erw[aj zb];decide)) XG;have W6:=W2.re zd zb nbd us (g1 _ _ (by erw[aj W2.ru];decide) V5) (g1 _ _ (by erw[aj zd];decide) N_) (by erw[aj kL];rewrite[jA];erw[aj em,<-gb]) (ER 0) (UI 0);have S6:WS H g (upd H5 A.wl (.list [.ref A.u,.int (at_:Int),.ref b])) ((B.set d 9).set b 10):=by
    have a1:=S5.set (a:=d) (n:=9) zd (dc rfl) (by erw[aj (G _ _ N_),<-λz=>nomatch z]);have a2:=a1.set (a:=b) (n:=10) ((fp (aJ nbd)).trans zb) (dc rfl) (by erw[aj XG,<-λz=>nomatch z]);exact a2.upd (.inr (by erw[aj W6.rw];decide))
   erw[Ze,Zd,<-BR R (A:=⟨A.wl,A.u,d,b⟩) (k:=0) I S6 W6 L ⟨QK [(zn 110,zp av aW),(zp bT f9,tf),(av,zs bT)] (zn 110,zp tf (zs aW)) rt J (aa Om) (iV qt),gF [(av,zp (zn 144115188075855872) (zm 100 aW)),(bT,av)] (bT,zp (zn 144115188075855872) (zm 100 (zs aW))) rt hhi hle,by erw[aj kL];rewrite[jA,aq];exact yj [(av,zp (zn 1) aW),(bT,av),(zs aW,zn 2)] (bT,zm 2 (zs f9)) rt (aa (ao O)) (aa T) k_⟩ (ax.mp (jU [(cN,dW),(fU,cN)] (fU,dW) rt (ax.mpr hhi) e)) (f0:=f.e) (by erw[aj kL];rewrite[jA];erw[aj M];rfl) gb (trf.2.2.2.1).symm N r3 r4 rfl (b_ hy (dc rfl)) (by have:=congrArg cF M;rw[aU] at this;rw[aq];exact Q3 O T this) (lv hn rfl) q]
  ·have hgt:l<at_:=by exact zo7 e
   have hmn:min l at_=l:=fE (gg hgt);rw[hmn] at V5;have Y:at_-l<=C.length:=UX [(zs av,zk aW 2),(bT,zp f9 av),(zp tf D5,bT),(zs f9,D5)] (tf,aW) rt SI (aa (ao Om)) (aa (bM (fe [(zs av,aW)] (av,aW) rt hgt))) (aa (bM (fe [(av,zn 20),(zn 110,zp aW av)] (zn 1,aW) rt L J)));have U:(C.take (at_-l)).length=at_-l:=by refine' aj dO ?_;exact fE Y
   erw[Zi,ZK,Zv rfl,Z8,Zo rfl,<-Zc N ?_,aw (v:=.ref A.w2) (G _ _ Wl) (h3 _ _ _) rfl,ZW,Z5,<-ZI r4 ?_,Zo rfl,<-Zc N ?_,aw (v:=.int (l:Int)) (G _ _ Wl) (h3 _ _ _) rfl,Z3,hY,aj (show(at_:Int)-(l:Int)=((at_-l:Nat):Int) by exact da (jU [(.sub cN dW,fU)] (.sub cN dW,fU) rt (aF (ao (cW (ax.mp (oY [(ys cN,dW)] (cN,dW) rt e)))))) (jU [(cN,.sub dW fU)] (cN,.sub dW fU) rt (aF (cW (ax.mp (oY [(ys cN,dW)] (cN,dW) rt e)))))),qh (G _ _ aar) trivial ⟨by exact Be,Int.lt_of_lt_of_le (bb.mpr (show at_-l<1152921504606846976 from gF [(av,aW),(aW,zm 2 bT),(zm 2 bT,zm 2 (zn 20))] (zs av,zn 1152921504606846976) rt Y d4 (aP 2 L))) (dc rfl)⟩ (by rw[bG,aq];exact Y1 d4 L rfl),(s hs)];have ecu:cut (aT (C.map B.mt)) none (some ((at_-l:Nat):Int))=aT ((C.take (at_-l)).map B.mt):=by rw[Dl];unfold aT;refine' c_ jy ?_;refine' c_ jy ?_;rfl
   erw[aj ecu];have x6:Ext H5 (upd H5 s (.list (aT ((C.take (at_-l)).map B.mt)))):=Ext.fresh Ext.refl hs;have hs6:(upd H5 s (.list (aT ((C.take (at_-l)).map B.mt)))) s=some (.list (aT ((C.take (at_-l)).map B.mt))):=us;generalize upd H5 s (.list (aT ((C.take (at_-l)).map B.mt)))=H6 at x6 hs6;erw[Cw hs6 (x6 _ _ XG) (by rewrite[bG,bG,aq];erw[aj U,aj aU];rewrite[aq];have:=congrArg cF M;rw[aU] at this;exact lr7 [(zm 2 av,zm 2 (zn 20)),(aW,zm 2 av),(bT,aW),(f9,zp (zn 1) tf),(D5,f9),(UY,D5),(zs tf,zn 2)] (zp bT UY,zn 100000) rt (aP 2 L) d4 Y (aa (ao O)) (aa T) (aa (ao this)) k_),(o ho)];have eap:aT ((C.take (at_-l)).map B.mt)++aT (f.r::E.map (·.r))=aT ((C.take (at_-l)++D.map (·.e)).map B.mt):=by
    erw[aj aX,aj em];unfold aT;erw[aj aX];rfl
   erw[aj eap];have zo:B.R o=0:=S5.k.fresh (aI x6 ho);have ndo:d≠o:=ne_sn (x6 _ _ (G _ _ N_)) ho;have x7:Ext H6 (upd H6 o (.list (aT ((C.take (at_-l)++D.map (·.e)).map B.mt)))):=Ext.fresh Ext.refl ho;have ho7:(upd H6 o (.list (aT ((C.take (at_-l)++D.map (·.e)).map B.mt)))) o=some (.list (aT ((C.take (at_-l)++D.map (·.e)).map B.mt))):=us;generalize upd H6 o (.list (aT ((C.take (at_-l)++D.map (·.e)).map B.mt)))=H7 at x7 ho7;have YE:=x6.trans x7;erw[<-Zc N ?_,ZA,i_ (YE _ _ (G _ _ Wl)) (h3 _ _ _) (dc rfl) (dc rfl)];have g1:∀a mo,B.R a≠7->H4 a=some mo->(upd H7 A.wl (.list [.ref A.u,.int (l:Int),.ref o])) a=some mo:=λa mo h q=>ae (nw a h) (YE _ _ (G _ _ q));have gb:(upd H7 A.wl (.list [.ref A.u,.int (l:Int),.ref o])) b=some (.list (aT (f.r::E.map (·.r)))):=ae (nw b (by erw[aj zb];decide)) (YE _ _ XG);have W6:=W2.re zd zo ndo us (g1 _ _ (by erw[aj W2.ru];decide) V5) (g1 _ _ (by erw[aj zd];decide) N_) (ae (nw o (by erw[aj zo];decide)) ho7) (ER _) (UI _);have S6:WS H g (upd H7 A.wl (.list [.ref A.u,.int (l:Int),.ref o])) ((B.set d 9).set o 10):=by
    have a1:=(S5.ext YE).set (a:=d) (n:=9) zd (dc rfl) (by erw[aj (YE _ _ (G _ _ N_)),<-λz=>nomatch z]);have a2:=a1.set (a:=o) (n:=10) ((fp (aJ ndo)).trans zo) (dc rfl) (by erw[aj ho7,<-λz=>nomatch z]);exact a2.upd (.inr (by erw[aj W6.rw];decide))
   erw[Ze,Zd,<-BR R (A:=⟨A.wl,A.u,d,o⟩) (k:=at_-l) I S6 W6 L ⟨by exact Xe J,by exact XZ hhi,by erw[aj ah,aj U];rewrite[aq];exact UX [(av,zm 2 aW),(bT,av),(f9,zp (zn 1) tf),(D5,f9),(zs tf,zn 2)] (zp bT D5,zm 2 (zs aW)) rt d4 Y (aa (ao O)) (aa T) k_⟩ (by assumption) (f0:=f.e) (by erw[aj (iS (ax.mp (oY [(cN,dW)] (cN,dW) rt (aF (congrArg rB U))))),aj U];rewrite[ou];erw[aj M];rfl) gb (trf.2.2.2.1).symm N r3 (by erw[aj (show l+(at_-l)=at_ by exact aS (ax.mp (zC [(cN,.sub dW fU),(vF,yp fU cN)] (vF,dW) rt (aF (cW (ax.mp (oY [(ys cN,dW)] (cN,dW) rt e)))) (aF (bj _ _)))) (ax.mp (zC [(.sub cN dW,fU),(yp dW fU,vF)] (cN,vF) rt (aF (ao (cW (ax.mp (oY [(ys cN,dW)] (cN,dW) rt e))))) (aF (ao (bj _ _)))))),<-r4]) rfl (b_ hy (dc rfl)) (by have:=congrArg cF M;rw[aU] at this;rw[aq];exact Q3 O T this) (lv hn rfl) q]
 ·erw[aD (sT e1),(kZ hlt)];subst kZ;have M:D.length<=1:=by exact yj [(av,zp (zn 1) aW),(zs bT,av),(f9,bT),(zs aW,zn 2)] (f9,zn 1) rt (aa (ao O)) hlt (aa (ao e2)) k_
  erw[JE R PP hy (UX [(av,zp aW bT),(f9,zp (zn 144115188075855872) (zm 100 tf)),(zs bT,zk D5 2),(zm 102 tf,zm 102 (zn 20)),(D5,zm 2 tf),(aW,f9)] (zs av,zn 1152921504606846976) rt (aa (ao Om)) hhi SI (aP 102 L) d4 (iW _ _)) M r1 r2 r3 r4 r5 (by erw[c_ e2];rfl) (lv hn rfl),(H2 B z v1 v2 P3),<-⟨trivial,ih _ _ ⟨done++[.int (done.length:Int)],B,D++[z],by erw[c_ e1];rewrite[aC];rfl,by erw[aj ah,aj ah,aj e2];rfl,P3,N,r1,r2,r3,r4,r5⟩⟩]
end
theorem i5.put{H:Hp}{g:Gh}(C:Cells H g)(i:g.R e=1)(j:10<=b)(m:i5 H g b A h sn rej cj):i5 (upd (upd H (g.mt e) y') e z') (g.put e x) b A h sn rej cj:=by
 have o:=rmt C i;rcases m with⟨m1,m2,m3,m4,m5,m6,m7,m8,m9,Qi,Qo,Q8,Qm⟩
 have k:bJ (λn=>n=3\/(b<=n/\n<=b+10)) H g (upd (upd H (g.mt e) y') e z') (g.put e x):=.put (aj i (λW=>W.elim (λK=>Ef [(zn 3,zn 1)] rt (aa (ao K))) (λK=>cH [(zn 10,av),(av,zn 1)] rt j K.1))) (aj o (λX=>X.elim (λL=>Ef [(zn 3,zn 2)] rt (aa (ao L))) (λL=>cH [(zn 10,av),(av,zn 2)] rt j L.1)));have d:∀a n f,g.R a=n->b<=n->n<=b+10->H a=some f->(upd (upd H (g.mt e) y') e z') a=some f:=λa n f e l u q=>k.h a f (.inr (⟨gF [(av,aW),(bT,av)] (bT,aW) rt (aa (ao e)) l,gF [(av,aW),(aW,bT)] (av,bT) rt (aa e) u⟩)) q;exact⟨d _ _ _ m8 qt vt m1,d _ _ _ m9 vt (vD rfl) m2,d _ _ _ Qi vt (vD rfl) m3,d _ _ _ Qo vt (vD rfl) m4,d _ _ _ Q8 vt (vD rfl) m5,λy c=>⟨(m6 y c).p,k.h _ _ (.inl (m6 y c).p) (m6 y c).h,(m6 y c).e,(m6 y c).r⟩,m7.keep k (λn l u=>.inr ⟨X7 l,u⟩) Qm,m8,m9,Qi,Qo,Q8,Qm⟩
section
variable{H':Hp}{g':Gh}
theorem Inv.far(I:Inv nz pl ga ka wa t H g)(k:bJ (λn=>n≠0/\n<=30) H g H' g')(G:g'.en=g.en)(O:∀a,g'.R a=g.R a\/30<g'.R a)(C:Claim H' g'):Inv nz pl ga ka wa t H' g':=by
 erw[iB I.wait,(B o Q e2 w q),iN I.msg,(A h E r S e1 M p),bf I.yY,(ts P),df I.cmd,(D c e3 F T),<-⟨I.cells.keep (k.sub λn h=>by exact⟨λU=>cH [(zn 1,av),(av,zn 0)] rt h.1 (aa U),dJ [(av,zn 5)] (av,zn 30) rt h.2⟩) (λa _ _=>by erw[aj G];rfl) (λa h1 h2=>?_),C,⟨ts,P.keep (k.sub λn h=>by exact⟨λN=>h.elim (λe=>cH [(av,zn 0),(zn 1,av)] rt (aa N) (aa (ao e))) (λe=>e.elim (λJ=>cH [(av,zn 0),(zn 3,av)] rt (aa N) (aa (ao J))) (λJ=>cH [(av,zn 0),(zn 6,av)] rt (aa N) (aa (ao J)))),h.elim (λu=>dJ [(av,zn 1)] (av,zn 30) rt (aa u)) (λu=>u.elim (λm=>dJ [(av,zn 3)] (av,zn 30) rt (aa m)) (λm=>dJ [(av,zn 6)] (av,zn 30) rt (aa m)))⟩)⟩,⟨A,h,E,r,S,e1,M.keep (k.sub λn h=>by unfold oz at h;exact⟨λx=>h.elim (λd=>cH [(av,zn 0),(zn 1,av)] rt (aa x) (aa (ao d))) (λd=>d.elim (λK=>cH [(av,zn 0),(zn 3,av)] rt (aa x) (aa (ao K))) (λK=>cH [(av,zn 0),(zn 20,av)] rt (aa x) K.1)),h.elim (λf=>dJ [(av,zn 1)] (av,zn 30) rt (aa f)) (λf=>f.elim (λL=>dJ [(av,zn 3)] (av,zn 30) rt (aa L)) (λL=>dJ [(av,zk (zn 20) 10)] (av,zn 30) rt L.2))⟩),p⟩,⟨D,c,e3,F.keep (k.sub λn h=>by exact⟨λi=>h.elim (λs=>cH [(av,zn 0),(zn 11,av)] rt (aa i) (aa (ao s))) (λs=>s.elim (λj=>cH [(av,zn 0),(zn 12,av)] rt (aa i) (aa (ao j))) (λj=>cH [(av,zn 0),(zn 13,av)] rt (aa i) (aa (ao j)))),h.elim (λb=>dJ [(av,zn 11)] (av,zn 30) rt (aa b)) (λb=>b.elim (λv=>dJ [(av,zn 12)] (av,zn 30) rt (aa v)) (λv=>dJ [(av,zn 13)] (av,zn 30) rt (aa v)))⟩),T⟩,⟨B,o,Q,e2,w.keep (k.sub λn h=>by unfold sW at h;exact⟨λz=>h.elim (λy=>cH [(av,zn 0),(zn 4,av)] rt (aa z) (aa (ao y))) (λy=>cH [(av,zn 0),(zn 7,av)] rt (aa z) y.1),h.elim (λl=>dJ [(av,zn 4)] (av,zn 30) rt (aa l)) (λl=>dJ [(av,zn 10)] (av,zn 30) rt l.2)⟩),q⟩,I.num.keep (k.sub λn h=>by exact⟨λY=>cH [(zn 14,av),(av,zn 0)] rt (aa (ao h)) (aa Y),dJ [(av,zn 14)] (av,zn 30) rt (aa h)⟩)⟩];rcases O a with h|h
 ·exact h.symm
 ·exact aS ((cH [(zs (zn 30),av),(av,zn 5)] rt h h2).elim) ((cH [(zs (zn 30),av),(av,zn 5)] rt h h2).elim)
theorem bJ.alloc(C:Claim H g)(h:H a=none):bJ (λn=>n≠0) H g (Mine.upd H a mo) (g.set a n):=
 (bJ.ext (Ext.fresh Ext.refl h)).trans (bJ.set λq=>q (C.fresh h))
theorem Inv.alloc{n:Nat}(I:Inv nz pl ga ka wa t H g)(h:H a=none)(c:30<n):Inv nz pl ga ka wa t (upd H a mo) (g.set a n):=by
 refine I.far ((bJ.alloc I.claim h).sub λn h=>h.1) rfl (λb=>?_) ((I.claim.ext (Ext.fresh Ext.refl h)).set (by rw[cY];exact λz=>nomatch z))
 by_cases e:b=a
 ·exact .inr (aj e (aj gM c))
 ·exact .inl (fp e)
theorem DR:∀(ts:List Tr)(xs:List En) {g:Gh},Inv nz pl ga ka wa t H g->i8 H ts xs->(∀x∈xs,x.Good)->(∀t∈ts,Fz g t)->(ts.map (·.p)).Nodup->(ts.map (·.e)).Nodup->(ts.map (·.r)).Nodup->
  ∃g',Inv nz pl ga ka wa t H g'/\bJ (λn=>n≠0) H g H g'/\(∀t∈ts,tR H g' t)/\∀a,(∀t∈ts,a≠t.p/\a≠t.e/\a≠t.r)->g'.R a=g.R a
 |[],[],g,I,_,_,_,_,_,_=>⟨g,I,.ext .refl,(λ_ h=>nomatch h),λ_ _=>rfl⟩
 |z::ts,x::xs,g,I,⟨pr,BL⟩,gx,fz,n1,n2,n3=>by
  erw[aD (fZ.mp n1),(m l),aD (fZ.mp n2),(k j),aD (fZ.mp n3),(i d)];have E:=I.qN (fz z j4) Ext.refl pr (gx x j4);have B:bJ (λn=>n≠0) H g H (g.twin z x):=.qN (fz z j4) Ext.refl (λh=>h rfl);have o:∀a,a≠z.p->a≠z.e->a≠z.r->(g.twin z x).R a=g.R a:=λ_ A w v=>by
   show(if _=z.p then 3 else if _=z.e then 1 else if _=z.r then 2 else g.R _)=_;erw[aj (if_neg A),aj (if_neg w),aj (if_neg v)];rfl
  have K:∀y∈ts,∃u,Pr H y.p y.e y.r u:=by
   clear o B E i k m n1 n2 n3 fz pr gx;intro y b
   induction ts generalizing xs with
   |nil=>cases b
   |cons s ts L=>
    induction xs using lcs with
    |nil=>exact BL.elim
    |cons F xs=>
     rcases bE.mp b with h|h
     ·exact⟨F,h▸BL.1⟩
     ·exact L xs BL.2 (fZ.mp l).2 (fZ.mp j).2 (fZ.mp d).2 h
  refine fc (DR ts xs E BL (λy b=>gx y (fR b)) (λy b=>by
   erw[bf (K y b),(u c)];have m1:y.p≠z.p:=λe=>m (cK.mpr ⟨y,b,e⟩);have m2:y.e≠z.e:=λe=>k (cK.mpr ⟨y,b,e⟩);have m3:y.r≠z.r:=λe=>i (cK.mpr ⟨y,b,e⟩);have f:=fz y (fR b);exact⟨(o _ m1 (fQ c.p pr.e (λq=>by injection q)) (fQ c.p pr.r (λq=>by cases q))).trans f.p,(o _ (fQ c.e pr.p (λq=>by injection q)) m2 (fQ c.e pr.r (λq=>by injection q))).trans f.e,(o _ (fQ c.r pr.p (λq=>by cases q)) (fQ c.r pr.e (λq=>by injection q)) m3).trans f.r⟩) l j d) ?_
  erw[(g' M C G J),<-⟨g',M,B.trans C,λy b=>?_,λa D=>?_⟩]
  ·rcases bE.mp b with h|h
   ·exact h▸(zl pr).keep C (dc rfl) (dc rfl)
   ·exact G y h
  ·erw[cA (D z j4),(A w v),<-(J a λy b=>D y (fR b)).trans (o a A w v)]
 |[],_::_,_,_,h,_,_,_,_,_=>h.elim
 |_::_,[],_,_,h,_,_,_,_,_=>h.elim
end
noncomputable def Gh.move(g:Gh):Gh:={g with R:=λa=>if 41<=g.R a/\g.R a<=50 then g.R a-20 else g.R a}
theorem Cj(h:g.R a<=40):g.move.R a=g.R a:=if_neg (λY=>cH [(av,zn 40),(zn 41,av)] rt h Y.1)
theorem jd(h:g.R a=40+i)(h1:1<=i)(h2:i<=10):g.move.R a=20+i:=by
 have:g.move.R a=g.R a-20:=if_pos (⟨fe [(zn 1,av),(zp (zn 40) av,aW)] (zn 41,aW) rt h1 (aa (ao h)),fe [(av,zn 10),(aW,zp (zn 40) av)] (aW,zn 50) rt h2 (aa h)⟩);exact aS (yj [(av,zp (zn 40) aW),(bT,f9),(zk f9 20,av)] (bT,zp (zn 20) aW) rt (aa h) (aa this) (aa (bM (fe [(zp (zn 40) av,aW)] (zn 20,aW) rt (aa (ao h)))))) (yj [(zp (zn 40) av,aW),(bT,f9),(aW,zk bT 20)] (zp (zn 20) av,f9) rt (aa (ao h)) (aa (ao this)) (aa (ao (bM (fe [(zp (zn 40) av,aW)] (zn 20,aW) rt (aa (ao h)))))))
theorem bJ.move{H:Hp}{g:Gh}(h:∀n,s n->n<=40):bJ s H g H g.move:=⟨λa k=>Cj (h _ k),λ_ _=>rfl,λ_ _ _ q=>q⟩
theorem i5.move{H:Hp}{g:Gh}(m:i5 H g 40 B h sn rej cj)(r:g.R gl=20):i5 (upd H gl (.list (B.gv rej cj))) g.move 20 {B with gl:=gl} h sn rej cj:=by
 have k:bJ (λn=>n=1\/n=3) H g (upd H gl (.list (B.gv rej cj))) g.move:=(bJ.upd (aj r (dc rfl))).trans (.move λn h=>by exact h.elim (λK=>dJ [(av,zn 1)] (av,zn 40) rt (aa K)) (λK=>dJ [(av,zn 3)] (av,zn 40) rt (aa K)));have st:∀a n b,g.R a=n->40<=n->H a=some b->(upd H gl (.list (B.gv rej cj))) a=some b:=λa n b e l q=>ae (bX e r (λe=>cH [(zn 40,av),(av,zn 20)] rt l (aa e))) q;rcases m with⟨m1,m2,m3,m4,m5,m6,m7,m8,m9,Qi,Qo,Q8,Qm⟩
 refine⟨us,st _ _ _ m9 (dc rfl) m2,st _ _ _ Qi (dc rfl) m3,st _ _ _ Qo (dc rfl) m4,st _ _ _ Q8 (dc rfl) m5,λy d=>(m6 y d).keep k (.inl rfl) (.inr rfl),?_,(Cj (aj r (dc rfl))).trans r,jd m9 (dc rfl) (dc rfl),jd Qi (dc rfl) (dc rfl),jd Qo (dc rfl) (dc rfl),jd Q8 (dc rfl) (dc rfl),λz c=>?_⟩
 ·exact m7.keep (bJ.upd (aj r (dc rfl))) (λn l u=>l) Qm
 ·rcases Qm z c with⟨z1,z2,z3,z4,z5,z6,z7,z8⟩
  exact⟨jd z1 (dc rfl) (dc rfl),jd z2 (dc rfl) (dc rfl),jd z3 (dc rfl) (dc rfl),jd z4 (dc rfl) (dc rfl),jd z5 (dc rfl) (dc rfl),jd z6 (dc rfl) (dc rfl),jd z7 (dc rfl) (dc rfl),jd z8 (dc rfl) (dc rfl)⟩
section
variable{G:Hp}
def Gj:E:=.or [(.not (bD 878 [fG])),(.cmp .NotEq (bD 589 [(bw aN 0)]) (bD 854 [aN]))]
theorem EE(R:Rd af w K)(C:Cells H g)(M:i5 H g 20 A h sn rej cj)(p:jv h sn cj A.tr t)(N:i5 H g 40 B h' E7 rQ ctx')(d:jv h' E7 ctx' B.tr t)(r:ρ 0=some (.ref A.gl))(c:ρ 5=some (.ref B.gl))(b:aB 9 n=true)(q:F false H):tw af w K aG n Gj ρ H F X:=by
 have a:=M.mb C;have o1:=i5.big (C:=C) M p;have e:=a.m;unfold Gj;erw[ZT,Zn,ZP,<-Zaa c ?_,tg R (N.mb C) (i5.big (C:=C) N d) (lv b rfl),Zx,ZM,Zn,ZH,Zq,Za,Zo rfl,<-Zc r ?_,aw a.g (dc rfl) rfl,Zb,<-fS R e a.me a.BL.OP a.sn.OC o1.big (lv b rfl) (λ_=>?_) (λz=>absurd o1.Iq z),<-Zz r ?_,rN R a o1 (lv b rfl),pO,ZM,ZD,<-q]
theorem zZ(R:Rd af w K)(I:Inv nz pl ga ka wa t H g)(o:10<=b)(c:10<=b')(M:i5 H g b A h sn rej cj)(N:i5 H g b' B h' E7 rQ ctx')(l:i<A.tr.length){f:Nat}(m:f<=3)(j:y<2^39)(k:aB 2 n=true)(q:∀a d,Inv nz pl ga ka wa t a d->i5 a d b A h sn rej cj->i5 a d b' B h' E7 rQ ctx'->Q .none a):aY af w K n 811 [.ref (A.tr[i]).p,.int (f:Int),.int (y:Int)] H Q X:=by
 have z:=M.ht _ (fL l);refine pE R I z m j k λx r=>q _ _ r (M.put I.cells z.e o) (N.put I.cells z.e c)
def HT:List S:=[.expr (bD 885 [aN,(ek 5),(bD 783 [(bw (bw aN 1) 5),(.bin .FloorDiv bA (ek 2))])]),.dm (.cmp .Gt (.call .len [(bw aN 3)]) (ek 0)) [.expr (bD 811 [(bw (bw aN 3) 0),(ek 3),(.bin .FloorDiv bA (ek 3))])] [],.dm Gj [dj (.cst (.bool false))] [],.expr (bD 885 [fG,(ek 6),(bD 783 [(bw (bw fG 1) 6),(.bin .FloorDiv bA (ek 5))])]),.dm (.cmp .Gt (.call .len [dP]) (ek 0)) [.expr (bD 811 [(bw dP 0),(ek 0),(.bin .FloorDiv bA (ek 6))])] [],.dm Gj [dj (.cst (.bool false))] [],.forR 6 none (ek 6) [.hK aN jS (.sub fG jS)],dj (.cst (.bool true))]
theorem I8(R:Rd af w K)(I:Inv nz pl ga ka wa t H g)(OU:A.gl=ga)(M:i5 H g 20 A h sn rej cj)(p:jv h sn cj A.tr t)(N:i5 H g 40 B d E7 rQ ctx')(j:jv d E7 ctx' B.tr t)(o:ρ 0=some (.ref A.gl))(T:ρ 1=some (.int (y:Int)))(r3:ρ 3=some (.ref B.g3))(C:ρ 5=some (.ref B.gl))(F:y<2^39)(G:aB 9 n=true)(q:∀S g',Inv nz pl ga ka wa t S g'->Q (.bool true) S):bO af w K aG n HT ρ H (dE Q) (cG X):=by
 have h6:∀(A:CK) r c,(A.gv r c).length<=100000:=λA r c=>by show 6<=100000;decide
 have h8:∀h,(hl h).length<=100000:=λh=>by show 8<=100000;decide
 have lA:=p.len;have lB:=j.len;have stC:∀(H:Hp)(g:Gh) h d,Inv nz pl ga ka wa t H g->i5 H g 20 A h sn rej cj->jv h sn cj A.tr t->i5 H g 40 B d E7 rQ ctx'->jv d E7 ctx' B.tr t->bO af w K aG n [.dm Gj [dj (.cst (.bool false))] [],.forR 6 none (ek 6) [.hK aN jS (.sub fG jS)],dj (.cst (.bool true))] ρ H (dE Q) (cG X):=λH g h d I M p N j=>by
  erw[Zh,EE R I.cells M p N j o C (lv G rfl),Zi,Ze,Zd,oM,ZA,aj (show(6:Int)=((6:Nat):Int) from rfl),hY];have V:=bX N.rg M.rg (dc rfl);have la:(A.gv rej cj).length=6:=rfl;have lb:(B.gv rQ ctx').length=6:=rfl;have st:∀i,i<6->∃v,(B.gv rQ ctx')[i]?=some v/\((B.gv rQ ctx').take i++(A.gv rej cj).drop i).set i v=(B.gv rQ ctx').take (i+1)++(A.gv rej cj).drop (i+1):=λi hi=>by
   refine nb6 hi ?_ ?_ ?_ ?_ ?_ ?_
   ·exact⟨_,rfl,rfl⟩
   ·exact⟨_,rfl,rfl⟩
   ·exact⟨_,rfl,rfl⟩
   ·exact⟨_,rfl,rfl⟩
   ·exact⟨_,rfl,rfl⟩
   ·exact⟨_,rfl,rfl⟩
  refine uS (k:=6) (dc rfl) (λE ρ S=>∃done,done++E=nk 6/\ρ 0=some (.ref A.gl)/\ρ 5=some (.ref B.gl)/\S=upd H A.gl (.list ((B.gv rQ ctx').take done.length++(A.gv rej cj).drop done.length)))
   ⟨[],rfl,o,C,(m_ M.hg).symm⟩ (λρ U=>(fc · λdone e1 o C e2=>?_)) λv E ρ S ih=>(fc · λdone e1 o C e2=>?_)
  ·rw[a_] at e1;rw[e1] at e2;have e3:=e2;subst e3;erw[ZO rfl];have x:=N.move M.rg;have J:bJ (λn=>1<=n/\n<=14) H g (upd H A.gl (.list (B.gv rQ ctx'))) g.move:=(bJ.upd (aj M.rg (dc rfl))).trans (.move λn h=>by exact dJ [(av,zn 14)] (av,zn 40) rt h.2);refine bH Ext.refl (q _ g.move (I.xA J rfl (λa=>?_) ⟨λa ha=>?_⟩ qt ⟨{B with gl:=A.gl},d,E7,rQ,ctx',OU,x,j⟩))
   ·by_cases c:41<=g.R a/\g.R a<=50
    ·refine .inr (.inl ?_);have:g.move.R a=g.R a-20:=if_pos c;exact gF [(zn 41,av),(aW,bT),(av,zk aW 20)] (zs (zn 13),bT) rt c.1 (aa (ao this)) (aa (ao (bM (dJ [(zn 41,av)] (zn 20,av) rt c.1))))
    ·exact .inl (if_neg c)
   ·erw[<-I.claim.upd.c a λz=>ha ?_,aj (Cj (by exact zwb z rfl)),<-z]
  ·erw[aD (sT e1),(eI D)];subst eI;erw[ay (st _ D),(v hv hs)];subst e2;erw[ZK,Z7,<-Zc C ?_,<-Zc rfl ?_,aw (ae V N.hg) (h6 _ _ _) (fh hv),<-Zc o ?_,<-Zc rfl ?_];have WU:min done.length 6+(6-done.length)=6:=by rw[fE (gg D)];exact Nat.add_sub_cancel' (gg D)
   erw[i_ us (aj ah (aj dO (aj ey (aj la (aj lb (aj WU (dc rfl))))))) ir (aj ah (aj dO (aj ey (aj la (aj lb (aj WU (bb.mpr D)))))))];rewrite[aL];erw[aj hs];rewrite[bR];erw[Ze,<-⟨trivial,ih _ _ ⟨done++[.int (done.length:Int)],by erw[c_ e1];rewrite[aC];rfl,o,C,by erw[aj ah];rfl⟩⟩]
 have P:∀(H:Hp)(g:Gh) h d,Inv nz pl ga ka wa t H g->i5 H g 20 A h sn rej cj->jv h sn cj A.tr t->i5 H g 40 B d E7 rQ ctx'->jv d E7 ctx' B.tr t->bO af w K aG n [.dm Gj [dj (.cst (.bool false))] [],.expr (bD 885 [fG,(ek 6),(bD 783 [(bw (bw fG 1) 6),(.bin .FloorDiv bA (ek 5))])]),.dm (.cmp .Gt (.call .len [dP]) (ek 0)) [.expr (bD 811 [(bw dP 0),(ek 0),(.bin .FloorDiv bA (ek 6))])] [],.dm Gj [dj (.cst (.bool false))] [],.forR 6 none (ek 6) [.hK aN jS (.sub fG jS)],dj (.cst (.bool true))] ρ H (dE Q) (cG X):=λH g h d I M p N j=>by
  erw[Zh,EE R I.cells M p N j o C (lv G rfl),Zi,Ze,Zd,Zk,Zq,<-Zr C ?_,Zr rfl,Za,Zq,Za,Zo rfl,Zo rfl,<-Zc C ?_,aw N.hg (h6 _ _ _) rfl,aw N.hu (h8 _) rfl,Za,Zv rfl,<-Zc T ?_,dS (y:=5) rfl (iM F).big rfl,Zb,iy R (j.hi 6 (dc rfl)) (vY F 5) (lv G rfl),(u W),Zb,vX R (dc rfl) N (f:=6) (dc rfl) (lv G rfl),(x)];have J:=λs h1 h2=>bJ.say (H:=H) (g:=g) (A:=B) (y':=.list (hl (hM d 6 u))) (z':=dD (hM d 6 u) B.me (yN B.sa) rQ ctx') (s:=s) N.Fc N.rm h2 h1;have O:jv (hM d 6 u) E7 ctx' B.tr t:=⟨sO j.hi ⟨ir,by exact oE W⟩,j.zv,j.len,j.so,j.c⟩;have l:=M.keep (J (oz 20) (by unfold oz;decide) (by unfold oz;decide));have L:=I.far (J _ (dc rfl) (dc rfl)) rfl (λ_=>.inl rfl) I.claim.upd.upd;generalize upd (upd H B.nu (.list (hl (hM d 6 u)))) B.m (dD (hM d 6 u) B.me (yN B.sa) rQ ctx')=H1 at x l L;have l3:(aT (B.tr.map (·.p))).length=B.tr.length:=by rw[bG,aq]
  erw[Zh,Zy rfl,<-ZG r3 ?_,dV x.h3 (by exact lK l3 lB rfl),aj l3,<-j_ (λe=>?_) (λe=>?_)]
  ·have h0:0<B.tr.length:=by exact Qg e
   erw[Zp,Zk,Zq,Za,Zo rfl,<-Zc r3 ?_,aw x.h3 (by exact lK l3 lB rfl) (fh (i:=0) (jL (by erw[aj (cP),aj (bx h0)];rfl))),Zr rfl,Za,Zv rfl,<-Zc T ?_,dS (y:=6) rfl (iM F).big rfl,Zb,zZ R L (dc rfl) (dc rfl) x l h0 (f:=0) (dc rfl) (vY F 6) (lv G rfl),(U Y I2 N2 M2),Ze,Zd,<-stC U Y _ _ I2 M2 p N2 O]
  ·erw[Zi,Ze,Zd,<-stC H1 g _ _ L l p x O]
 unfold HT;erw[Zk,Zq,<-Zr o ?_,Zr rfl,Za,Zq,Za,Zo rfl,Zo rfl,<-Zc o ?_,aw M.hg (h6 _ _ _) rfl,aw M.hu (h8 _) rfl,Za,Zv rfl,<-Zc T ?_,dS (y:=2) rfl (iM F).big rfl,Zb,iy R (p.hi 5 (dc rfl)) (vY F 2) (lv G rfl),(u W),Zb,vX R (dc rfl) M (f:=5) (dc rfl) (lv G rfl),(l)];have J:=λs h1 h2=>bJ.say (H:=H) (g:=g) (A:=A) (b:=20) (y':=.list (hl (hM h 5 u))) (z':=dD (hM h 5 u) A.me (yN A.sa) rej cj) (s:=s) M.Fc M.rm h2 h1;have O:jv (hM h 5 u) sn cj A.tr t:=⟨sO p.hi ⟨ir,by exact oE W⟩,p.zv,p.len,p.so,p.c⟩;have x:=N.keep (J (oz 40) (by unfold oz;decide) (by unfold oz;decide));have L:=I.xA (J _ (dc rfl) (dc rfl)) rfl (λ_=>.inl rfl) I.claim.upd.upd qt ⟨A,_,sn,rej,cj,OU,l,O⟩;generalize upd (upd H A.nu (.list (hl (hM h 5 u)))) A.m (dD (hM h 5 u) A.me (yN A.sa) rej cj)=H1 at x l L;have l3:(aT (A.tr.map (·.p))).length=A.tr.length:=by rw[bG,aq]
 erw[Zh,Zy rfl,ZN,Za,Zo rfl,<-Zc o ?_,aw l.hg (h6 _ _ _) rfl,Zb,dV l.h3 (by exact lK l3 lA rfl),aj l3,<-j_ (λe=>?_) (λe=>?_)]
 ·have h0:0<A.tr.length:=by exact Qg e
  erw[Zp,Zk,Zq,Za,Zo rfl,Zo rfl,<-Zc o ?_,aw l.hg (h6 _ _ _) rfl,aw l.h3 (by exact lK l3 lA rfl) (fh (i:=0) (jL (by erw[aj (cP),aj (bx h0)];rfl))),Zr rfl,Za,Zv rfl,<-Zc T ?_,dS (y:=3) rfl (iM F).big rfl,Zb,zZ R L (b:=20) (dc rfl) (dc rfl) l x h0 (f:=3) (dc rfl) (vY F 3) (lv G rfl),(U Y I2 M2 N2),Ze,Zd,<-P U Y _ _ I2 M2 O N2 j]
 ·erw[Zi,Ze,Zd,<-P H1 g _ _ L l O x j]
end
theorem i8.app{H:Hp}:∀{ts us:List Tr} {xs ys:List En},i8 H ts xs->i8 H us ys->i8 H (ts++us) (xs++ys)
 |[],_,[],_,_,h=>h
 |_::_,_,_::_,_,a,h=>⟨a.1,i8.app a.2 h⟩
 |[],_,_::_,_,h,_=>h.elim
 |_::_,_,[],_,h,_=>h.elim
section
variable{G:Hp}
structure V8(H H':Hp)(es:List Addr)(xs:List En)(ts:List Tr):Prop where
 x:Ext H H'
 e:ts.map (·.e)=es
 pr:i8 H' ts xs
 f:∀t∈ts,H t.p=none/\H t.r=none
 np:(ts.map (·.p)).Nodup
 nr:(ts.map (·.r)).Nodup
theorem G3(C:Cells H g)(M:i5 H g 20 A h sn rej cj)(J:A.tr.length<=5)(hm:H m=some (dD h0 me v0 ab5 MW))(he:H me=some (.list (aT es)))(S:dT H es (A.tr.map λt=>g.en t.e))(O:ρ 0=some (.ref A.gl))(r2:ρ 2=some (.ref m))(q:∀ts N c,V8 H N es (A.tr.map λt=>g.en t.e) ts->N c=none->Q (.ref c) (upd N c (.list (aT (ts.map (·.p)))))):dk af w K aG n (.j6 (.lst [(.sub (.attr dB 15) (.loc 1000)),(.call .list [(bw (.sub (bw aN 3) (.loc 1000)) 1)])]) (.call .len [(bw aN 3)])) ρ H Q X:=by
 have h6:(A.gv rej cj).length<=100000:=dc rfl;have l3:(aT (A.tr.map (·.p))).length=A.tr.length:=by rw[bG,aq]
 have l:=S.length;rw[aq] at l;have B:=hm;unfold dD at B;have W:=M.hg;erw[Zag,ZN,Za,Zo rfl,<-Zc O ?_,aw W h6 rfl,Zb,dV M.h3 (lK l3 J rfl),aj l3,<-⟨_,rfl,ir,ax.mpr (dJ [(av,zn 5)] (av,zn 1000) rt J),?_⟩];rw[vd];refine mD (λi L j=>∃done ts,done++i=nk A.tr.length/\done.length=ts.length/\L=aT (ts.map (·.p))/\V8 H j (es.take ts.length) ((A.tr.map λt=>g.en t.e).take ts.length) ts) _ []
  ?_ (λL j=>(fX · λdone ts e1 e2 e3 P=>?_)) λv i L j=>(fX · λdone ts e1 e2 e3 P G Y=>?_)
 ·exact⟨[],[],rfl,rfl,rfl,⟨Ext.refl,rfl,trivial,(λ_ h=>nomatch h),o5,o5⟩⟩
 ·rw[a_] at e1;have T:ts.length=A.tr.length:=by refine' c_ e2 ?_;refine' aj e1 ?_;unfold nk;rewrite[aq];refine' aj d7 ?_;rfl
  rw[d5 (VF l T),d5 (by rw[aq];exact fe [(av,aW)] (av,aW) rt (aa (ao T)))] at P;erw[(c hc),aj e3,<-q ts j c P hc]
 ·erw[aD (sT e1),(eI d)];subst eI;rw[e2] at d⊢;rcases P with⟨x,e,pr,f,np,nr⟩
  have D:es[ts.length]?=some (es[ts.length]'(by exact zo9 d l)):=bx _;generalize es[ts.length]'(zo9 d l)=ee at D;erw[ay (S.get D),(y k N7)];have V:A.tr[ts.length]?=some (A.tr[ts.length]'d):=bx _;have R:=M.ht _ (fL d);generalize A.tr[ts.length]'d=z at V R;rw[cP,V] at k;have k:g.en z.e=y:=bV k;erw[aD (R.pr C),(pz gz)];rw[k] at pz;have SX:=x _ _ B;erw[eP rfl,Za,Zo rfl,<-Zl r2 ?_,aO SX rfl rfl,aw (x _ _ he) (by rw[bG];exact lK l J rfl) (fh (jL D)),Za,Z6,Za,Zo rfl,Zo rfl,Zo rfl,<-Zc O ?_,aw (x _ _ W) h6 rfl,aw (x _ _ M.h3) (lK l3 J rfl) (fh (jL (by erw[aj (cP),aj V];rfl))),aw (x _ _ pz.p) (dc rfl) rfl,Zb,pI (x _ _ pz.r) (dc rfl),(r hr),Zb,(p hp),aD (bo hp),(U Wy)];have E:Ext j (upd (upd j r (.list y.vs)) p (.list [.ref ee,.ref r])):=Ext.fresh (Ext.fresh Ext.refl hr) U;have zr:=aI x hr;have zp:=aI x U;have o:∀t∈ts,j t.p≠none/\j t.r≠none:=by
   clear Y e1 e2 e3 e f np nr d V D E;intro t ht;generalize (A.tr.map λt=>g.en t.e).take ts.length=us at pr
   induction ts generalizing us with
   |nil=>cases ht
   |cons s ts ih=>
    induction us using lcs with
    |nil=>exact pr.elim
    |cons u us=>
     rcases bE.mp ht with h|h
     ·erw[aj h,aj pr.1.p,aj pr.1.r,<-⟨(λz=>nomatch z),(λz=>nomatch z)⟩]
     ·exact ih h _ pr.2
  refine Y _ _ trivial ⟨done++[.int ts.length],ts++[⟨p,ee,r⟩],by erw[c_ e1];rewrite[aC];erw[aj e2];rfl,by erw[aj ah,aj ah,aj e2];rfl,by erw[aj e3];unfold aT;erw[aj aX,aj aX];rfl,⟨x.trans E,?_,?_,?_,?_,?_⟩⟩
  ·erw[aj aX,aj e,aj ah,aj aV,aj iG,aj D];rfl
  ·erw[aj ah,aj aV,aj iG,aj (cP),aj V];show i8 _ _ (_++[g.en z.e]);erw[aj k,<-i8.app (pr.ext E) ⟨⟨us,E _ _ (x _ _ N7),ae (aJ Wy) us⟩,trivial⟩]
  ·exact λt ht=>by
    rcases cC.mp ht with ht|ht
    ·exact f t ht
    ·erw[aj (aR.mp ht),<-⟨zp,zr⟩]
  ·erw[aj aX,<-iH.mpr ⟨np,fA _ _,λa I b F q=>?_⟩];rw[aR.mp F] at q;erw[ay (cK.mp I),(t ht iL)];subst iL;exact(o t ht).1 (aj q U)
  ·erw[aj aX,<-iH.mpr ⟨nr,fA _ _,λa I b F q=>?_⟩];rw[aR.mp F] at q;erw[ay (cK.mp I),(t ht kZ)];subst kZ;exact(o t ht).2 (aj q hr)
end
theorem i8.mem{H:Hp}:∀{ts:List Tr} {xs:List En},i8 H ts xs->∀t∈ts,∃x,Pr H t.p t.e t.r x
 |[],_,_,_,h=>nomatch h
 |_::_,[],h,_,_=>h.elim
 |s::ts,x::xs,h,t,ht=>by
  rcases bE.mp ht with q|q
  ·erw[aj q,<-⟨x,h.1⟩]
  ·exact i8.mem h.2 t q
section
variable{G:Hp}
def y5(m me:Addr)(z:Option (Addr×BE)):List (Addr×Nat):=(m,41)::(me,44)::(match z with|none=>[]|some (a,A)=>snE 40 a A)
noncomputable def zV:Option (Addr×BE)->V
 |none=>.none
 |some a=>.ref a.1
def SnZ(H:Hp):Option (Addr×BE)->Option Sn->Prop
 |none,none=>True
 |some a,some s=>Bf H a.1 a.2 s
 |_,_=>False
theorem Sq(g:H m=some (dD h me v rej cj))(j:H me=some (.list (aT es)))(t:m≠me)(c:A2 H0 H me v sn)(w:∀s,sn=some s->s.ids≠[])(u:Px H0 m me es):
  ∃z,(y5 m me z).Pairwise (λx y=>y.1=x.1->y.2=x.2)/\(∀x∈y5 m me z,H0 x.1=none/\(∃mo,H x.1=some mo/\∀y:En,y.o≠mo)/\40<=x.2)/\v=zV z/\SnZ H z sn:=by
 have m1:H0 m=none/\(∃mo,H m=some mo/\∀y:En,y.o≠mo)/\40<=41:=⟨u.fm,⟨_,g,λy q=>by cases q⟩,by decide⟩;have m2:H0 me=none/\(∃mo,H me=some mo/\∀y:En,y.o≠mo)/\40<=44:=⟨u.S0,⟨_,j,λy q=>by injection q⟩,by decide⟩
 induction c using A2.casesOn with
 |none=>
  refine⟨none,?_,?_,rfl,trivial⟩
  ·exact .cons (aK (λe=>absurd e.symm t) fK) (.cons fK .nil)
  ·exact aK m1 (aK m2 fK)
 | @some a A s f k cn=>
  have d:∀{x y:Addr} {p q:MO},H x=.some p->H y=.some q->p≠q->y=x->False:=λp q n e=>fQ p q n e.symm;have i:∀{a:Addr} {r:Nat},H0 a=none->(∃mo,H a=.some mo/\∀y:En,y.o≠mo)->40<=r->H0 (a,r).1=none/\(∃mo,H (a,r).1=.some mo/\∀y:En,y.o≠mo)/\40<=(a,r).2:=λa b c=>⟨a,b,c⟩;refine⟨.some (a,A),?_,?_,rfl,k⟩
  ·refine .cons (aK (λe=>absurd e.symm t) (aK (λe=>(d g k.o (λq=>by cases q) e).elim) (aK (λe=>(d g k.co.c (λq=>by cases q) e).elim) (aK (λe=>(d g k.co.v (λq=>by injection q) e).elim) (aK (λe=>(d g k.co.l (λq=>by injection q) e).elim) (aK (λe=>(d g k.co.o (λq=>by injection q) e).elim) (aK (λe=>(d g k.co.n (λq=>by injection q) e).elim) fK)))))))
    (.cons (aK (λe=>(d j k.o (λq=>by injection q) e).elim) (aK (λe=>(d j k.co.c (λq=>by injection q) e).elim) (aK (λe=>absurd e.symm cn.v) (aK (λe=>absurd e.symm cn.l) (aK (λe=>absurd e.symm cn.o) (aK (λe=>absurd e.symm cn.n) fK)))))) (k.pw (w s rfl) 40))
  ·exact aK m1 (aK m2 (aK (i f.o ⟨_,k.o,λy q=>by cases q⟩ (dc rfl)) (aK (i f.co.c ⟨_,k.co.c,λy q=>by cases q⟩ (dc rfl)) (aK (i f.co.v ⟨_,k.co.v,λy q=>by injection q⟩ (dc rfl)) (aK (i f.co.l ⟨_,k.co.l,λy q=>by injection q⟩ (dc rfl)) (aK (i f.co.o ⟨_,k.co.o,λy q=>by injection q⟩ (dc rfl)) (aK (i f.co.n ⟨_,k.co.n,λy q=>by injection q⟩ (dc rfl)) fK)))))))
def Uc:List S:=.dm (.cmp .NotEq (.call .len [(.attr dB 15)]) (.call .len [(bw aN 3)])) [dj (.cst (.bool false))] []:: .bq 3 (.j6 (.lst [(.sub (.attr dB 15) (.loc 1000)),(.call .list [(bw (.sub (bw aN 3) (.loc 1000)) 1)])]) (.call .len [(bw aN 3)])):: .bq 4 (.cst .none):: .dm (.qG (bw aN 4) true) [.bq 4 (.lst [(bw (bw aN 4) 0),(bw (bw aN 4) 1),(.call .list [(bw (bw aN 4) 2)]),(bw (bw aN 4) 3),(bw (bw aN 4) 4)])] []:: .bq 5 (.lst [dB,(.call .list [(bw aN 1)]),(bw aN 2),dP,fB,(bw aN 5)])::HT
theorem D9(R:Rd af w K)(I:Inv nz pl ga ka wa t H g)(OU:A.gl=ga)(M:i5 H g 20 A h sn rej cj)(p:jv h sn cj A.tr t)(hm:H m=some (dD h me (yN sa) rej cj))(he:H me=some (.list (aT (ts.map (·.e)))))(hc:H c=some (.list (aT (ts.map (·.p)))))(Y:∀z∈ts,tR H g z)(JT:ts.length<=5)(hs:tY H sa sn)(P:g.R m=41)(Ft:g.R me=44)(S:g.R c=43)(O:∀z,sa=some z->ll g.R 40 z)(d:ρ 0=some (.ref A.gl))(V:ρ 1=some (.int (y:Int)))(U:ρ 2=some (.ref m))(E:ρ 3=some (.ref c))(T:ρ 4=some (NM sa))(W:y<2^39)(hn:aB 9 n=true)(q:∀L g',Inv nz pl ga ka wa t L g'->Q (.bool true) L):
  bO af w K aG n (.bq 5 (.lst [dB,(.call .list [(bw aN 1)]),(bw aN 2),dP,fB,(bw aN 5)])::HT) ρ H (dE Q) (cG X):=by
 have h6:(A.gv rej cj).length<=100000:=dc rfl;erw[Zg,eP rfl,<-Zr U ?_,Za,Z6,Za,Zo rfl,<-Zc d ?_,aw M.hg h6 rfl,Zb,pI M.hu (dc rfl),(b B)];have x:Ext H (upd H b (.list (hl h))):=Ext.fresh Ext.refl B;have j:=I.alloc (n:=42) (mo:=.list (hl h)) B (dc rfl);have s:bJ (λn=>n≠0) H g (upd H b (.list (hl h))) (g.set b 42):=.alloc I.claim B;have J:(upd H b (.list (hl h))) b=some (.list (hl h)):=us;have F:(g.set b 42).R b=42:=gM;generalize upd H b (.list (hl h))=H1 at x j s J;generalize g.set b 42=g1 at j s F;erw[Za,Zo rfl,<-Zc d ?_,aw (x _ _ M.hg) h6 rfl,<-Zr E ?_,<-Zr T ?_,Za,Zo rfl,<-Zc d ?_,aw (x _ _ M.hg) h6 rfl,Zb,(gl C)];have D:Ext H1 (upd H1 gl (.list ((CK.mk gl m b c me ts sa).gv rej cj))):=Ext.fresh Ext.refl C;have I2:=j.alloc (n:=40) (mo:=.list ((CK.mk gl m b c me ts sa).gv rej cj)) C (dc rfl);have G:bJ (λn=>n≠0) H1 g1 (upd H1 gl (.list ((CK.mk gl m b c me ts sa).gv rej cj))) (g1.set gl 40):=.alloc j.claim C;have f:=x.trans D;have k:=s.trans G;have o:∀a i,g.R a=i->i≠0->(g1.set gl 40).R a=i:=λa i e z=>(k.r a (aj e z)).trans e;have N:i5 (upd H1 gl (.list ((CK.mk gl m b c me ts sa).gv rej cj))) (g1.set gl 40) 40 ⟨gl,m,b,c,me,ts,sa⟩ h sn rej cj:=
  ⟨us,f _ _ hm,D _ _ J,f _ _ hc,f _ _ he,λz v=>(Y z v).keep k (dc rfl) (dc rfl),hs.ext f,gM,o _ _ P (dc rfl),(G.r b (aj F (dc rfl))).trans F,o _ _ S (dc rfl),o _ _ Ft (dc rfl),λz v=>(O z v).keep k (λn l u=>by exact Qr l)⟩
 have M2:=M.keep (k.sub λn h=>by unfold oz at h;exact Ni h);exact I8 R I2 OU M2 p N ⟨p.hi,p.zv,JT,p.so,p.c⟩ d V E rfl W hn q
theorem DP(R:Rd af w K)(I:Inv nz pl ga ka wa t H g)(OU:A.gl=ga)(M:i5 H g 20 A h sn rej cj)(p:jv h sn cj A.tr t)(x:Ext H H1)(f:Px H m me es)(hm:H1 m=some (dD h me v rej cj))(W:H1 me=some (.list (aT es)))(hx:dT H1 es (A.tr.map λt=>g.en t.e))(sc:A2 H H1 me v sn)(ne:m≠me)(E:ρ 0=some (.ref A.gl))(r1:ρ 1=some (.int (y:Int)))(r2:ρ 2=some (.ref m))(b:y<2^39)(hn:aB 9 n=true)(q:∀H' g',Inv nz pl ga ka wa t H' g'->Q (.bool true) H'):bO af w K aG n Uc ρ H1 (dE Q) (cG X):=by
 have h6:(A.gv rej cj).length<=100000:=dc rfl;have JT:=p.len;have l3:(aT (A.tr.map (·.p))).length=A.tr.length:=by rw[bG,aq]
 have lx:=hx.length;rw[aq] at lx;have EY:=hm;unfold dD at EY;erw[fc (Sq hm W ne sc (λs B=>(p.so s B).2.1) f),(z pw J N E9)];have I1:=I.ext x;have rz:∀y∈y5 m me z,g.R y.1=0:=λy b=>I.claim.fresh (J y b).1;have I2:=I1.far (.sets _ (λy b h=>h.1 (rz y b)) λy b h=>by have:=(J y b).2.2;exact cH [(zn 40,av),(av,zn 30)] rt this h.2) (Dd _) (λa=>by
  rcases vq (y5 m me z) (g:=g) (a:=a) with e|⟨y,b,e⟩
  ·exact .inl e
  ·exact .inr (by erw[aj e];have:=(J y b).2.2;exact dJ [(zn 40,av)] (zs (zn 30),av) rt this)) (Claim.sets _ I1.claim λy b=>by
  erw[ay ((J y b).2.1),(mo O _),aj O];exact λz=>nomatch z)
 have k2:bJ (λn=>n≠0/\n<40) H1 g H1 (g.sets (y5 m me z)):=.sets _ (λy b h=>h.1 (rz y b)) λy b h=>by have:=(J y b).2.2;exact cH [(zn 40,av),(zs av,zn 40)] rt this h.2
 have em:∀y∈y5 m me z,(g.sets (y5 m me z)).R y.1=y.2:=zz _ pw;have M1:=M.keep (.ext x);have M2:=M1.keep (k2.sub λn h=>by unfold oz at h;exact⟨λMF=>h.elim (λNg=>cH [(av,zn 0),(zn 1,av)] rt (aa MF) (aa (ao Ng))) (λNg=>Ng.elim (λL4=>cH [(av,zn 0),(zn 3,av)] rt (aa MF) (aa (ao L4))) (λL4=>cH [(av,zn 0),(zn 20,av)] rt (aa MF) L4.1)),h.elim (λLu=>dJ [(av,zn 1)] (zs av,zn 40) rt (aa Lu)) (λLu=>Lu.elim (λKg=>dJ [(av,zn 3)] (zs av,zn 40) rt (aa Kg)) (λKg=>dJ [(av,zk (zn 20) 10)] (zs av,zn 40) rt Kg.2))⟩);have G:∀a,g.R a=0->(∀y∈y5 m me z,a≠y.1)->(g.sets (y5 m me z)).R a=0:=λa h k=>(El _ k).trans h;have ets:∀y,(g.sets (y5 m me z)).en y=g.en y:=λy=>by rw[Dd]
 generalize g.sets (y5 m me z)=g2 at I2 k2 em M2 G ets;unfold Uc;erw[Zh,ZH,ZN,Za,<-Zl r2 ?_,aO EY rfl rfl,Zb,dV W (by rw[bG];exact lK lx JT rfl),ZN,Za,Zo rfl,<-Zc E ?_,aw (v:=.ref A.g3) M1.hg h6 rfl,Zb,dV M1.h3 (by exact lK l3 JT rfl),aj l3];rewrite[bG];erw[aj lx,Xf,Zi,Ze,Zd,Zg,G3 I1.cells M1 JT hm W hx E r2,(ts H2 c P hc)];rcases P with⟨x2,ee,pr,ff,np,j⟩
 have hlt:ts.length=A.tr.length:=by
  have:=congrArg cF ee;rw[aq] at this;exact aS (gF [(av,aW),(aW,bT)] (av,bT) rt (aa this) (aa lx)) (gF [(av,aW),(bT,av)] (bT,aW) rt (aa (ao this)) (aa (ao lx)))
 have I2':=I2.ext x2;have esn:∀e∈es,∃y:En,H1 e=some y.o:=λe W=>by
  erw[ay (dT.mem hx W),(y _ b),<-⟨y,b⟩]
 have tes:∀s∈ts,s.e∈es:=λs B=>by refine' c_ ee ?_;exact cK.mpr ⟨s,B,rfl⟩
 have xx:=x.trans x2;have gx:∀y∈A.tr.map (λt=>g.en t.e),y.Good:=λy b=>by
  erw[ay (cK.mp b),(s B eI)];subst eI;exact(I.cells.ent _ (.inl (M.ht s B).e)).2.2.2.2
 refine fc (DR ts _ I2' pr gx (λs B=>by
  erw[aD (ff s B),(f1 f2),bf (esn _ (tes s B)),(u hu),<-⟨G _ (I1.claim.fresh f1) λy b e=>?_,G _ (I.claim.fresh (f.fes _ (tes s B))) λy b e=>?_,G _ (I1.claim.fresh f2) λy b e=>?_⟩]
  ·erw[ay ((J y b).2.1),(mo O _)];rw[<-e,f1] at O;injection O
  ·erw[ay ((J y b).2.1),(mo O hq)];rw[<-e,hu] at O;exact hq u (bV O)
  ·erw[ay ((J y b).2.1),(mo O _)];rw[<-e,f2] at O;injection O) np (ee▸f.nd) j) ?_
 intro g3 I3 k3 t3 o3;have I4:=I3.alloc (n:=43) (mo:=.list (aT (ts.map (·.p)))) hc (dc rfl);have k4:bJ (λn=>n≠0) H2 g3 (upd H2 c (.list (aT (ts.map (·.p))))) (g3.set c 43):=.alloc I3.claim hc;have x4:Ext H2 (upd H2 c (.list (aT (ts.map (·.p))))):=Ext.fresh Ext.refl hc;have Y:(upd H2 c (.list (aT (ts.map (·.p))))) c=some (.list (aT (ts.map (·.p)))):=us;have T:(g3.set c 43).R c=43:=gM;have Q6:=((bJ.ext x2).trans k3).trans k4;have F:=x2.trans x4;have t4:∀s∈ts,tR (upd H2 c (.list (aT (ts.map (·.p))))) (g3.set c 43) s:=λs B=>(t3 s B).keep k4 (dc rfl) (dc rfl);have C:=M2.keep (Q6.sub λn h=>by unfold oz at h;exact Ni h);generalize upd H2 c (.list (aT (ts.map (·.p))))=H4 at I4 Y Q6 F t4 C;generalize g3.set c 43=g4 at I4 T Q6 t4 C;have L:∀y∈y5 m me z,g4.R y.1=y.2:=λy b=>(Q6.r _ (by erw[aj (em y b)];have:=(J y b).2.2;exact Qr this)).trans (em y b);have rm:=L (m,41) j4;have Ft:=L (me,44) (fR j4);have Rv:=C.hs;erw[Z1 rfl,Zh,ZS,Zo rfl,<-Zc E ?_,aw (v:=NM A.sa) C.hg h6 rfl];cases hA:A.sa with
 |none=>
  rw[hA] at Rv
  induction sn using tT with
  |some _=>exact Rv.elim
  |none=>
  induction z using tT with
  |some _=>exact E9.elim
  |none=>
  have N:v=.none:=N;replace N:=N.symm;subst N;erw[kY rfl,Zi,Ze,Zd,<-D9 R I4 (sa:=none) OU C p (F _ _ hm) (by erw[aj ee,<-F _ _ W]) Y t4 (by exact lK hlt JT rfl) trivial rm Ft T (λ_ h=>nomatch h) E r1 r2 rfl rfl b hn q]
 |some za=>
  rw[hA] at Rv;cases xd:sn with
  |none=>rw[xd] at Rv;exact Rv.elim
  |some s=>
  rw[xd] at Rv E9
  induction z using tT with
  |none=>exact E9.elim
  |some aA=>
  have hB:nM H4 za s:=Rv;rcases aA with⟨a,D⟩
  have hk:Bf H1 a D s:=E9;have N:v=.ref a:=N;subst N;have h5:(s.vs za.s2).length<=100000:=dc rfl;have nO:=(p.so s xd).1.ids.len;erw[kY rfl,Zp,Zg,eP rfl,Za,Zo rfl,Zo rfl,<-Zc E ?_,aw (v:=NM A.sa) C.hg h6 rfl,aj hA,aw (v:=.int s.i) hB.sl h5 rfl,Za,Zo rfl,Zo rfl,<-Zc E ?_,aw (v:=NM A.sa) C.hg h6 rfl,aj hA,aw (v:=.int s.t) hB.sl h5 rfl,Za,Z6,Za,Zo rfl,Zo rfl,<-Zc E ?_,aw (v:=NM A.sa) C.hg h6 rfl,aj hA,aw (v:=.ref za.s2) hB.sl h5 rfl,Zb,pI hB.s2 (by rw[Ac];exact dK nO rfl),(s2 Ee)];have x5:Ext H4 (upd H4 s2 (.list (iv s.ids))):=Ext.fresh Ext.refl Ee;have I5:=I4.alloc (n:=46) (mo:=.list (iv s.ids)) Ee (dc rfl);have k5:bJ (λn=>n≠0) H4 g4 (upd H4 s2 (.list (iv s.ids))) (g4.set s2 46):=.alloc I4.claim Ee;have h25:(upd H4 s2 (.list (iv s.ids))) s2=some (.list (iv s.ids)):=us;have U:(g4.set s2 46).R s2=46:=gM;generalize upd H4 s2 (.list (iv s.ids))=H5 at x5 I5 k5 h25;generalize g4.set s2 46=g5 at I5 k5 U;erw[Za,Zo rfl,Zo rfl,<-Zc E ?_,aw (v:=NM A.sa) (x5 _ _ C.hg) h6 rfl,aj hA,aw (v:=.bool s.u) (x5 _ _ hB.sl) h5 rfl,Za,Zo rfl,Zo rfl,<-Zc E ?_,aw (v:=NM A.sa) (x5 _ _ C.hg) h6 rfl,aj hA,aw (v:=.bytes s.d) (x5 _ _ hB.sl) h5 rfl,Zb,(sl vA)];have x6:Ext H5 (upd H5 sl (.list (s.vs s2))):=Ext.fresh Ext.refl vA;have I6:=I5.alloc (n:=45) (mo:=.list (s.vs s2)) vA (dc rfl);have k6:bJ (λn=>n≠0) H5 g5 (upd H5 sl (.list (s.vs s2))) (g5.set sl 45):=.alloc I5.claim vA;have x46:=x5.trans x6;have S:=F.trans x46;have V:=k5.trans k6;have j:∀a i,g4.R a=i->i≠0->(g5.set sl 45).R a=i:=λa i e z=>(V.r a (by erw[aj e,<-z])).trans e;have B6:nM (upd H5 sl (.list (s.vs s2))) ⟨sl,s2,a,D⟩ s:=⟨us,x6 _ _ h25,hk.ext S⟩;erw[Ze,Zd,<-D9 R I6 (sa:=some ⟨sl,s2,a,D⟩) OU (C.keep (V.sub λn h=>by unfold oz at h;exact Ni h)) p (S _ _ hm) (by erw[aj ee,<-S _ _ W]) (x46 _ _ Y) (λy b=>(t4 y b).keep V (dc rfl) (dc rfl)) (by exact lK hlt JT rfl) (by erw[aj xd,<-B6]) (j _ _ rm (dc rfl)) (j _ _ Ft (dc rfl)) (j _ _ T (dc rfl)) (λy b=>?_) E r1 r2 rfl rfl b hn q];injection b with b;subst b
  exact⟨gM,(k6.r s2 (by erw[aj U];decide)).trans U,j _ _ (L (a,47) (fR (fR j4))) (dc rfl),j _ _ (L (D.c,48) (fR (fR (fR j4)))) (dc rfl),j _ _ (L (D.v,49) (fR (fR (fR (fR j4))))) (dc rfl),j _ _ (L (D.l,50) (fR (fR (fR (fR (fR j4)))))) (dc rfl),j _ _ (L (D.o,50) (fR (fR (fR (fR (fR (fR j4))))))) (dc rfl),j _ _ (L (D.n,50) (fR (fR (fR (fR (fR (fR (fR j4)))))))) (dc rfl)⟩
theorem Ou(R:Rd af w K)(I:Inv nz pl ga ka wa t H g)(u:y<2^39)(a:aB 10 n=true)(q:∀E G,Inv nz pl ga ka wa t E G->Q (.bool true) E):aY af w K n 982 [.ref ga,.int (y:Int)] H Q X:=by
 erw[R.rO.to rfl a,(n a),iN I.msg,(A h P r L O M p)];subst O;have h6:(A.gv r L).length<=100000:=dc rfl;have V:=M.mb I.cells;have o:=i5.big (C:=I.cells) M p;have B:=M.hm;have l:(A.tr.map λt=>g.en t.e).length<=10:=by rw[aq];have:=p.len;exact dK this rfl
 have c:bO af w K aG n (.bq 2 (.bp (bw aN 0) 10 [])::[]) (sr ([.ref A.gl,.int y]++[])) H (h_ af w K n Uc (dE Q) (cG X)) (cG X):=by
  erw[aw M.hg h6 rfl,bC B rfl,bt B rfl,E0 R M.hm M.he V.BL.OP V.sn.OC l (λs k=>(p.so s k).1.ids) (lv a rfl),(N m F J v x f d b Y i j),<-DP R I rfl M p x f d b Y i j rfl rfl rfl u (lv a rfl) q]
 erw[Zh,ZR,Zn,Zy rfl,Zs rfl rfl,dI rfl,<-cq (λe=>?_) (λe=>?_)]
 ·erw[Zp,Zn,Zaa rfl,<-yz R V l (lv a rfl) (λD=>?_) (λD=>?_)]
  ·erw[Zx,Zp,ZD,Zp,Zg,Zq,Za,Zq,Za,Zf rfl rfl,aw M.hg h6 rfl,<-fS R M.hm M.he V.BL.OP V.sn.OC o.big (lv a rfl) (λ_=>?_) (λz=>absurd o.Iq z),<-n_ R o.big o.Iq o.zv (λs k=>Sn.gK (o.so s k)) (aH (AJ o) (dc rfl)) (lv a rfl) (λ_ N m F J v x f d b Y i j=>?_) (λz=>absurd D z),<-DP R I rfl M p x f d b Y i j rfl rfl rfl u (lv a rfl) q]
  ·erw[Zx,Z0,Zi,<-c]
 ·erw[Z0,Zi,<-c]
end
section
variable{G:Hp}
theorem OY(R:Rd af w K)(I:Inv nz pl ga ka wa t H g)(P:gu H g pl ts)(i:j<ts.length)(o:t<=20)(m:y<2^38)(b:aB 11 n=true)(q:∀c f,Inv nz pl ga ka wa (t+1) c f->Q (.bool true) c):
  aY af w K n 989 [.int (act:Int),.ref pl,.int (j:Int),.ref ga,.ref ka,.ref wa,.int (y:Int)] H Q X:=by
 erw[R.Kc.to rfl b,(n b)];have a:y<2^39:=b_ m (dc rfl);erw[fc (oa P i),(z v _ s u)];have r:(aT (ts.map (·.p))).length<=100000:=by rw[bG,aq];have:=P.len;exact dK this rfl
 have d:∀c f,Inv nz pl ga ka wa t c f->zI Q (.bool true) c:=λc f k=>bH Ext.refl (q _ _ k.up);have l:∀c f,Inv nz pl ga ka wa (t+1) c f->zI Q (.bool true) c:=λc f k=>bH Ext.refl (q _ _ k);erw[Zh,Zj rfl rfl,<-cq (λe=>?_) (λe=>?_)]
 ·erw[Zp,Zt,Zaj rfl rfl rfl,<-Si R I P i a (lv b rfl) (d _ _ I)]
 erw[Zi,Ze,Zd,Zh,Zj rfl rfl,<-cq (λe=>?_) (λe=>?_)]
 ·erw[Zp,Zt,Zaj rfl rfl rfl,<-A_ R I P i a (lv b rfl) d]
 erw[Zi,Ze,Zd,Zh,Zj rfl rfl,<-cq (λe=>?_) (λe=>?_)]
 ·erw[Zp,Zt,Zaj rfl rfl rfl,<-Jq R I P i a (lv b rfl) d]
 erw[Zi,Ze,Zd,Zh,Zj rfl rfl,<-cq (λe=>?_) (λe=>?_)]
 ·erw[Zp,Zt,ZU rfl rfl,<-EZ R I a (lv b rfl) d]
 erw[Zi,Ze,Zd,Zh,Zj rfl rfl,<-cq (λe=>?_) (λe=>?_)]
 ·erw[Zp,Zt,Zq,Zr rfl,Za,Zf rfl rfl,aw P.h r (fh s),ZF rfl,<-OO R I u a (lv b rfl) d]
 erw[Zi,Ze,Zd,Zh,Zj rfl rfl,<-cq (λe=>?_) (λe=>?_)]
 ·erw[Zp,Zt,ZU rfl rfl,<-Nl R I o a (lv b rfl) l]
 erw[Zi,Ze,Zd,Zh,Zj rfl rfl,<-cq (λe=>?_) (λe=>?_)]
 ·erw[Zp,Zt,ZU rfl rfl,<-GX R I a (lv b rfl) d]
 erw[Zi,Ze,Zd,Zh,Zj rfl rfl,<-cq (λe=>?_) (λe=>?_)]
 ·erw[Zp,Zt,Zq,Zah rfl rfl rfl rfl,<-OG R I P o m (lv b rfl) l]
 erw[Zi,Ze,Zd,Zt,ZU rfl rfl,<-Ou R I a (lv b rfl) d]
end
variable{hd:Nat}
variable{dY:Nat}
structure LR(ρ:Loc)(nz:Nz)(pl ga ka wa:Addr)(hd dY:Nat):Prop where
 r1:ρ 1=some (.ref nz.1)
 r2:ρ 2=some (.int (hd:Int))
 r3:ρ 3=some (.ref pl)
 r9:ρ 9=some (.ref ga)
 HG:ρ 11=some (.ref ka)
 r12:ρ 12=some (.int (dY:Int))
 Uj:ρ 13=some (.ref wa)
theorem LR.up(x:LR ρ nz pl ga ka wa hd dY)(h:i∉[1,2,3,9,11,12,13]):LR (upd ρ i v) nz pl ga ka wa hd dY:=by
 have k:∀j,j∈[1,2,3,9,11,12,13]->(upd ρ i v) j=ρ j:=λj a=>dp _ _ λe=>h (e▸a);exact⟨(k _ (dc rfl)).trans x.r1,(k _ (dc rfl)).trans x.r2,(k _ (dc rfl)).trans x.r3,(k _ (dc rfl)).trans x.r9,(k _ (dc rfl)).trans x.HG,(k _ (dc rfl)).trans x.r12,(k _ (dc rfl)).trans x.Uj⟩
section
variable{G:Hp}
theorem CP(R:Rd af w K)(I:Inv nz pl ga ka wa t H g)(h:tR H g z){f:Nat}(d:f<=2)(b:rE v)(c:aB 0 n=true)(q:∀x',Inv nz pl ga ka wa t (upd (upd H (g.mt z.e) (.list x'.vs)) z.e x'.o) (g.put z.e x')->Q .none (upd (upd H (g.mt z.e) (.list x'.vs)) z.e x'.o)):aY af w K n 804 [.ref z.p,.int (f:Int),.int v] H Q X:=by
 erw[aD (h.pr I.cells),(a i)];rw[h.r] at a;exact mG R a d c (q _ (I.put h.e (i.d6 f b)))
theorem oo(R:Rd af w K)(C:Cells H g)(h:tR H g z)(b:aB 3 n=true)(q:Q (.bool true) H):aY af w K n 818 [.ref z.p] H Q X:=by
 erw[aD (h.pr C),(a c),<-mU R a c b q]
def Td:List S:=[.forR 4 none (.call .len [dP]) [.expr (bD 804 [(.sub dP fB),(ek 2),(bD 750 [(.bin .Add (.bin .Add dB (ek 2)) (.bin .Mult (ek 3) fB))])]),.dm (.not (bD 818 [(.sub dP fB)])) [dj (.cst (.bool false))] []],dj (bD 837 [(.comp (bw (.loc 1000) 0) dP none),(.comp (bw (.loc 1000) 1) dP none),(.bin .FloorDiv dB (ek 5))])]
def O7:List S:=.q7 17 (bw w_ 3) [.dm (.cmp .NotEq (bw (bw (.loc 17) 1) 2) (ek 2)) [.expr (bD 804 [(.loc 17),(ek 2),(ek 0)])] []]:: .expr (bD 885 [w_,(ek 6),(bD 783 [(bw (bw w_ 1) 6),dB])]):: .expr (bD 899 [Bi,(ek 2),(bD 783 [(bw (bw Bi 1) 2),dB])]):: .dm (.or [(.not (bD 878 [w_])),(.not (bD 913 [Bi])),(.not (bD 972 [OZ,dB]))]) [dj (.cst (.bool false))] []::Td
def Sp:List S:=.forR 4 none (.call .len [dP]) [.expr (bD 811 [(.sub dP fB),(ek 0),(.bin .Add dB (.bin .Mult (ek 3) fB))]),.dm (.not (bD 818 [(.sub dP fB)])) [dj (.cst (.bool false))] [],.expr (bD 804 [(.sub dP fB),(ek 1),(.bin .Add IQ fB)]),.dm (.not (bD 832 [(.sub dP fB)])) [dj (.cst (.bool false))] []]::O7
def Rk:List S:=.forR 14 none (.bin .Add (ek 3) (.call .min [(ek 5),(.bin .FloorDiv (.call .len [bA]) (ek 4))])) [.bq 5 (bD 743 [bA,(.bin .Add (ek 8) (.bin .Mult (ek 2) (.loc 14)))]),.bq 15 (bD 743 [bA,(.bin .Add (ek 9) (.bin .Mult (ek 2) (.loc 14)))]),.bq 16 (.bin .Mod fG (.call .len [dP])),.expr (bD 811 [(.sub dP (.loc 16)),(.bin .Mod (.bin .FloorDiv fG (ek 5)) (ek 4)),(.bin .FloorDiv fG (ek 20))]),.dm (.not (bD 818 [(.sub dP (.loc 16))])) [dj (.cst (.bool false))] [],.dm (.not (bD 989 [(.bin .Mod (.loc 15) (ek 9)),dP,(.loc 16),w_,Bi,OZ,(.bin .FloorDiv (.loc 15) (ek 9))])) [dj (.cst (.bool false))] []]::Sp
theorem abi(R:Rd af w K)(I:Inv nz pl ga ka wa t H g)(L:LR ρ nz pl ga ka wa hd dY)(J:hd<2^30)(D:aB 11 n=true)(q:∀u,Q (.bool true) u):bO af w K aG n Td ρ H (dE Q) (cG X):=by
 erw[bf I.yY,(ts P)];have j:=P.len;have lH:(aT (ts.map (·.p))).length<=100000:=by rw[bG,aq];exact dK j rfl
 have C:=L.r2;have f:=L.r3;unfold Td;erw[oM,<-ZG f ?_,dV P.h lH];rw[bG,aq];erw[hY,<-uS (dK j rfl) (λb ρ u=>∃done E,done++b=nk ts.length/\Inv nz pl ga ka wa t u E/\gu u E pl ts/\LR ρ nz pl ga ka wa hd dY) ?_ (λρ F=>(fX · λdone g2 e1 I2 l L2=>?_)) λv b ρ u ih=>(fX · λdone E e1 Y T U=>?_)]
 ·exact⟨[],g,rfl,I,P,L⟩
 ·have f:=L2.r3;have C:=L2.r2;have BL:=FL I2.cells l.tr;have O:∀x∈ts.map (λt=>g2.en t.e),x.Good:=λx hx=>by
   erw[ay (cK.mp hx),(s hs eI)];subst eI;exact(I2.cells.ent _ (.inl (l.tr s hs).e)).2.2.2.2
  erw[Zt,Zq,Za,ZJ,<-Zc f ?_,<-tF (λz=>.ref z.e) l.h (dK j rfl) (λz k G' N=>?_) λc hc=>?_]
  ·erw[Zf rfl rfl,<-aw (l.tr z k).h (dc rfl) rfl N]
  have ee:ts.map (λz=>V.ref z.e)=aT (ts.map (·.e)):=by unfold aT;refine' aj eg ?_;rfl
  erw[aj ee];have A:Ext F (upd F c (.list (aT (ts.map (·.e))))):=Ext.fresh Ext.refl hc;have y:(upd F c (.list (aT (ts.map (·.e))))) c=some (.list (aT (ts.map (·.e)))):=us;generalize upd F c (.list (aT (ts.map (·.e))))=H3 at A y;erw[Za,ZJ,<-Zc f ?_,<-tF (λz=>.ref z.r) (A _ _ l.h) (dK j rfl) (λz k G' N=>?_) λd M=>?_]
  ·erw[Zf rfl rfl,<-aw (A _ _ (l.tr z k).h) (dc rfl) rfl N]
  have er:ts.map (λz=>V.ref z.r)=aT (ts.map (·.r)):=by unfold aT;refine' aj eg ?_;rfl
  erw[aj er];have G:Ext H3 (upd H3 d (.list (aT (ts.map (·.r))))):=Ext.fresh Ext.refl M;have JX:(upd H3 d (.list (aT (ts.map (·.r))))) d=some (.list (aT (ts.map (·.r)))):=us;generalize upd H3 d (.list (aT (ts.map (·.r))))=H4 at G JX;erw[Za,Zv rfl,<-Zc C ?_,dS rfl (iM (b_ J (dc rfl))).big rfl,Zb];have YS:=BL.ext (A.trans G);erw[DJ R (G _ _ y) JX YS.OP YS.rows O (by rw[aq];exact dK j rfl) (iM (vY (b_ J (dc rfl)) 5)) (lv D rfl),<-bH Ext.refl (q _)]
 ·erw[aD (sT e1),(iL i)];subst iL;erw[fc (oa T i),(z QT _ k B)];have f:=U.r3;have C:=U.r2;have WO:=lH;erw[Zk,Zq,Za,Zo rfl,<-Zc f ?_,aw T.h WO (fh k),Zr rfl,Za,Zq,Za,ZC,Zv rfl,<-Zc C ?_,Zw,Zs rfl rfl,<-⟨du (dc rfl),du (by rw[cT];exact aZ i (aH j (dc rfl))),?_⟩,Zw,Zb,aj (show hd+2+3*done.length=(hd+2+3*done.length:Nat) by exact rfl),jc R (b_ (m:=2^31) (aZ (DC (J0 J 2) (aP 3 (gg (aZ i j)))) (dc rfl)) (dc rfl)) (lv D rfl),(v hv),Zb,CP R Y B (dc rfl) ⟨ir,oE hv⟩ (lv D rfl),(a W)];have S:=T.put (x:=a) (y':=.list a.vs) (z':=a.o) Y.cells B.e;have z3:=B.put (x:=a) (y':=.list a.vs) (z':=a.o) Y.cells B.e;generalize upd (upd u (E.mt z.e) (.list a.vs)) z.e a.o=H3 at W S z3;erw[Zh,ZP,Zab,Za,Zo rfl,<-Zc f ?_,aw S.h WO (fh k),Zb,oo R W.cells z3 (lv D rfl),Zx,Zi,Ze,Zd,Ze,<-⟨trivial,ih _ _ ⟨done++[.int done.length],_,by erw[c_ e1];rewrite[aC];rfl,W,S,U.up (dc rfl)⟩⟩]
end
section
variable{G:Hp}
theorem XA(R:Rd af w K)(I:Inv nz pl ga ka wa t H g)(L:LR ρ nz pl ga ka wa hd dY)(F:hd<2^30)(ht:t<=20)(a:aB 11 n=true)(q:∀H',Q (.bool true) H'):bO af w K aG n (O7.drop 1) ρ H (dE Q) (cG X):=by
 erw[iN I.msg,(A h S d N eI M p)];subst eI;have h6:∀r c,(A.gv r c).length<=100000:=λr c=>by show 6<=100000;decide
 have h8:(hl h).length<=100000:=dc rfl;have T:hd<2^39:=b_ F (dc rfl);have l:=L.r2;have j:=L.r9;have E:=L.HG;have Uj:=L.Uj;erw[Zk,Zq,<-Zr j ?_,Zr rfl,Za,Zq,Za,Zo rfl,Zo rfl,<-Zc j ?_,aw M.hg (h6 _ _) rfl,aw M.hu h8 rfl,<-ZF l ?_,iy R (p.hi 6 (dc rfl)) T (lv a rfl),(v hv),Zb,vX R (dc rfl) M (dc rfl) (lv a rfl),(O)];have i:=I.xA (bJ.say M.Fc M.rm (dc rfl) (dc rfl)) rfl (λ_=>.inl rfl) I.claim.upd.upd qt ⟨A,_,S,d,N,rfl,O,⟨sO p.hi ⟨ir,oE hv⟩,(by unfold hM;erw[aj (if_neg (dc rfl)),<-p.zv]),p.len,p.so,p.c⟩⟩;generalize (upd (upd H A.nu (.list (hl (hM h 6 ↑v)))) A.m (dD (hM h 6 ↑v) A.me (yN A.sa) d N))=H1 at i;clear O M p I;erw[df i.cmd,(B c iL M G)];subst iL;have h2:([V.ref B.cm,.ref B.kr]).length<=100000:=dc rfl;have y:c.vs.length<=100000:=dc rfl;erw[Zk,Zq,<-Zr E ?_,Zr rfl,Za,Zq,Za,Zo rfl,Zo rfl,<-Zc E ?_,aw M.kb.k h2 rfl,aw M.kb.r y rfl,<-ZF l ?_,iy R (G.get (f:=2) (dc rfl)).1 T (lv a rfl),(u hu),Zb,wI R M (dc rfl) (lv a rfl),(D)];have e:=G.d6 (f:=2) ⟨ir,oE hu⟩ (λz=>absurd z (dc rfl));have b:=i.FT ((bJ.upd (aj M.rr (dc rfl))).trans (bJ.upd (aj M.rc (dc rfl)))) rfl (λ_=>.inl rfl) i.claim.upd.upd ⟨B,_,rfl,D,e⟩;generalize (upd (upd H1 B.kr (.list (c.d6 2 ↑u).vs)) B.cm (c.d6 2 ↑u).o)=H2 at b D;erw[iN b.msg,(A' h' E7 rQ J ea P U),iB b.wait,(C Y es kZ W pw)];subst kZ;have x:=P.mb b.cells;have s:=i5.big (C:=b.cells) P U;have:=pw.len;erw[Zh,ZT,Zn,ZP,<-Zaa j ?_,c_ ea,tg R x s (lv a rfl),Zx,ZM,Zn,ZP,<-Zaa E ?_,D3 R D.kb e (lv a rfl),Zx,ZM,Zn,ZP,abN Uj l,xH R b.cells W (Y1 this ht rfl) (iM T) (lv a rfl),Zx,ZM,ZD,Zi,Ze,Zd,<-abi R b L F a q]
theorem abS(R:Rd af w K)(I:Inv nz pl ga ka wa t H g)(L:LR ρ nz pl ga ka wa hd dY)(P:hd<2^30)(O:t<=20)(B:aB 11 n=true)(q:∀f,Q (.bool true) f):bO af w K aG n O7 ρ H (dE Q) (cG X):=by
 erw[iN I.msg,(A h F l S J M p)];subst J;have h6:∀r c,(A.gv r c).length<=100000:=λr c=>by show 6<=100000;decide
 have G:=L.r9;have l5:=p.len;unfold O7;erw[Z_,Zo rfl,<-Zc G ?_,aw M.hg (h6 _ _) rfl,<-Fs M.h3 (by rw[bG,aq];exact dK l5 rfl) (λa ρ f=>∃(t2:List Tr)(i:Gh),a=aT (t2.map (·.p))/\(∀z∈t2,z∈A.tr)/\Inv nz pl A.gl ka wa t f i/\i5 f i 20 A h F l S/\LR ρ nz pl A.gl ka wa hd dY) ⟨A.tr,g,rfl,λ_ h=>h,I,M,L⟩ (λρ Y=>(iC · λt2 W e1 _ b d j=>XA R b j P O B q)) λv a ρ f u=>(iC · λt2 i e1 s2 b d j=>?_)]
 match t2,e1 with
 |z::t3,e1=>
  erw[aD (List.cons.inj e1),(E D)];subst E;subst D;have m:=d.ht z (s2 z j4);have s3:∀y∈t3,y∈A.tr:=λy N=>s2 y (fR N);erw[aD (m.pr b.cells),(s U)];have h2:([V.ref z.e,.ref z.r]).length<=100000:=dc rfl;erw[Zh,Zy rfl,Zo rfl,Zf rfl rfl,aw s.p h2 rfl,aw s.r (dc rfl) rfl,<-v7 (λe=>?_) (λe=>?_)]
  ·erw[Zi,Ze,Zd,Ze,<-⟨d.h3,u _ _ ⟨t3,i,rfl,s3,b,d,j.up (dc rfl)⟩⟩]
  ·erw[Zp,Zk,Zaj rfl rfl rfl,CP R b m (dc rfl) ⟨by decide,by decide⟩ (lv B rfl),(k T)];have C:=d.put (x:=k) (y':=.list k.vs) (z':=k.o) b.cells m.e (dc rfl);erw[Ze,Zd,Ze,<-⟨C.h3,u _ _ ⟨t3,_,rfl,s3,T,C,j.up (dc rfl)⟩⟩]
end
variable{a0:Addr}
section
variable{G:Hp}
theorem aaA(R:Rd af w K)(I:Inv nz pl ga ka wa t H g)(L:LR ρ nz pl ga ka wa hd dY)(N:hd<2^30)(V:dY<2^57)(U:t<=20)(s:aB 11 n=true)(q:∀j,Q (.bool true) j):bO af w K aG n Sp ρ H (dE Q) (cG X):=by
 erw[bf I.yY,(ts P)];have k:=P.len;have l:(aT (ts.map (·.p))).length<=100000:=by rw[bG,aq];exact dK k rfl
 have f:=L.r3;unfold Sp;erw[oM,<-ZG f ?_,dV P.h l];rw[bG,aq];erw[hY,<-uS (dK k rfl) (λr ρ j=>∃done u,done++r=nk ts.length/\Inv nz pl ga ka wa t j u/\gu j u pl ts/\LR ρ nz pl ga ka wa hd dY) ?_ (λρ H2=>(fX · λdone g2 e1 I2 P2 L2=>abS R I2 L2 N U s q)) λv r ρ j T=>(fX · λdone u e1 M J D=>?_)]
 ·exact⟨[],g,rfl,I,P,L⟩
 ·erw[aD (sT e1),(Y c)];subst Y;erw[fc (oa J c),(z QT _ B A)];have f:=D.r3;have O:=D.r2;have G:=D.r12;have UU:=du (by rw[cT];exact aZ c (aH k (dc rfl)));erw[Zk,Zq,Za,Zo rfl,<-Zc f ?_,aw J.h l (fh B),Zr rfl,Za,<-ZI O ?_,Zs rfl rfl,<-⟨du (dc rfl),UU,?_⟩,Zw,Zb,aj (show hd+3*done.length=(hd+3*done.length:Nat) by exact rfl),pE R M A (dc rfl) (b_ (m:=2^31) (aZ (DC N (aP 3 (gg (aZ c k)))) (dc rfl)) (dc rfl)) (lv s rfl),(b i)];have y:=J.put (x:=b) (y':=.list b.vs) (z':=b.o) M.cells A.e;have d:=A.put (x:=b) (y':=.list b.vs) (z':=b.o) M.cells A.e;generalize upd (upd j (u.mt z.e) (.list b.vs)) z.e b.o=H3 at i y d;generalize u.put z.e b=g3 at i y d;erw[Zh,ZP,Zab,Za,Zo rfl,<-Zc f ?_,aw y.h l (fh B),Zb,oo R i.cells d (lv s rfl),Zx,Zi,Ze,Zd,Zk,Zq,Za,Zo rfl,<-Zc f ?_,aw y.h l (fh B),Zr rfl,Za,Zv rfl,<-Zc G ?_,Zw,Zb,CP R i d (dc rfl) ⟨Xq,ax.mpr (gF [(zs av,zn 144115188075855872),(zs aW,bT),(bT,zn 5)] (zp av aW,zn 18446744073709551615) rt V c k)⟩ (lv s rfl),(a E)];have C:=y.put (x:=a) (y':=.list a.vs) (z':=a.o) i.cells d.e;have F:=d.put (x:=a) (y':=.list a.vs) (z':=a.o) i.cells d.e;generalize upd (upd H3 (g3.mt z.e) (.list a.vs)) z.e a.o=H4 at E C F;generalize g3.put z.e a=g4 at E C F;erw[aD (F.pr E.cells),(S W),Zh,ZP,Zab,Za,Zo rfl,<-Zc f ?_,aw C.h l (fh B),Zb,oj R S W (lv s rfl),Zx,Zi,Ze,Zd,Ze,<-⟨trivial,T _ _ ⟨done++[.int done.length],_,by erw[c_ e1];rewrite[aC];rfl,E,C,D.up (dc rfl)⟩⟩]
theorem abF(R:Rd af w K)(I:Inv (a0,l.map λx:Nat=>V.int (x:Int)) pl ga ka wa 0 H g)(l0:l≠[])(t:l.length<=24)(J:∀x∈l,x<1000000)(L:LR ρ (a0,l.map λx:Nat=>V.int (x:Int)) pl ga ka wa hd dY)(hh:hd<2^30)(hb:dY<2^57)(b:aB 11 n=true)(q:∀k,Q (.bool true) k):bO af w K aG n Rk ρ H (dE Q) (cG X):=by
 have s:=L.r1;have N:(l.map λx:Nat=>V.int (x:Int)).length=l.length:=aq _;unfold Rk;erw[oM,ZI rfl,Zau,Zr rfl,Za,Zv rfl,<-ZG s ?_,dV I.num.h (by exact lK N t rfl),aj N,dS (y:=4) rfl (Y.big (aM t (dc rfl))) rfl,Zb,Zao,Zw,hY,aj (mn5),<-uS (aH (cV (ua 5 _) 3) (dc rfl)) (λr ρ k=>∃done A,done++r=nk (3+min 5 (l.length / 4))/\Inv (a0,l.map λx:Nat=>V.int (x:Int)) pl ga ka wa done.length k A/\LR ρ (a0,l.map λx:Nat=>V.int (x:Int)) pl ga ka wa hd dY) ?_ (λρ H2=>(df · λdone g2 e1 I2 L2=>?_)) λv r ρ k ih=>(df · λdone A e1 d c=>?_)]
 ·exact⟨[],g,rfl,I,L⟩
 ·have:done.length=(nk (3+min 5 (l.length / 4))).length:=by refine' c_ e1 ?_;rw[a_]
  have e:(nk (3+min 5 (l.length / 4))).length=3+min 5 (l.length / 4):=by unfold nk;simp
  exact aaA R I2 L2 hh hb (aH (aa (this.trans e)) (aH mn8 (dc rfl))) b q
 ·erw[aD (sT e1),(iL j)];subst iL;erw[bf d.yY,(ts P)];have W:=P.len;have i:=nL.mpr P.ne;have F:(aT (ts.map (·.p))).length<=100000:=by rw[bG,aq];exact dK W rfl
  have s:=c.r1;have m:=c.r3;have T:=c.r9;have HG:=c.HG;have Uj:=c.Uj;have h8:=iJ (aZ j mn8);have U:=du (by rw[cT];exact aZ j (aH (mn8:_<=8) (dc rfl)));erw[Zg,Zq,<-Zr s ?_,Za,ZI rfl,Zs rfl rfl,<-⟨du (dc rfl),U,?_⟩,Zw,Zb,aj (show(8:Int)+2*(done.length:Int)=((8+2*done.length:Nat):Int) by exact rfl),tu R d.num.h l0 (by exact dK t rfl) J (aH (cV (aP 2 h8) 8) (dc rfl)) (lv b rfl),(y hy),Zg,Zq,<-Zr s ?_,Za,ZI rfl,Zs rfl rfl,<-⟨du (dc rfl),U,?_⟩,Zw,Zb,aj (show(9:Int)+2*(done.length:Int)=((9+2*done.length:Nat):Int) by exact rfl),tu R d.num.h l0 (by exact dK t rfl) J (aH (cV (aP 2 h8) 9) (dc rfl)) (lv b rfl),(S f)];have E:y<2^39:=b_ hy (dc rfl);have G:S<2^39:=b_ f (dc rfl);have O:y%ts.length<ts.length:=fP _ i;erw[fc (oa P O),(z QT _ M u),Zg,ZI rfl,<-ZG m ?_,dV P.h F];rw[bG,aq];erw[dI (d3.mpr i),Zk,Zq,Za,Zo rfl,<-Zc m ?_,aw P.h F (fh M),Za,Zv rfl,Zs rfl rfl,dS (y:=5) rfl (iM E).big rfl,dI (y:=4) rfl,Za,Zs rfl rfl,dS rfl (iM E).big rfl,Zb];have h4:y / 5%4<4:=k_;erw[pE R d u Np (vY E 20) (lv b rfl),(a C)];have B:=P.put (x:=a) (y':=.list a.vs) (z':=a.o) d.cells u.e;have D:=u.put (x:=a) (y':=.list a.vs) (z':=a.o) d.cells u.e;generalize upd (upd k (A.mt z.e) (.list a.vs)) z.e a.o=H3 at C B D;generalize A.put z.e a=g3 at C B D;erw[Zh,ZP,Zab,Za,Zo rfl,<-Zc m ?_,aw B.h F (fh M),Zb,oo R C.cells D (lv b rfl),Zx,Zi,Ze,Zd,Zh,ZP,Zab,Za,Zs rfl rfl,dI (y:=9) rfl,<-Zr m ?_,Zr rfl,<-Zr T ?_,<-Zr HG ?_,<-Zr Uj ?_,Za,Zs rfl rfl,dS (y:=9) rfl (iM G).big rfl,Zb,OY R C B O (aH h8 (dc rfl)) (aM (nK _ _) (b_ f (dc rfl))) b,(H5 g5 I5),Zx,Zi,Ze,Zd,Ze,<-⟨trivial,ih _ _ ⟨done++[.int (done.length:Int)],g5,by erw[c_ e1];rewrite[aC];rfl,by erw[aj ah,<-I5],(((c.up (dc rfl)).up (dc rfl)).up (dc rfl)).up (dc rfl)⟩⟩]
end
def Sw:List S:=.dm (.cmp .Gt (.call .len [(.comp (.loc 1000) dP (some (.not (bD 818 [(.loc 1000)]))))]) (ek 0)) [dj (.cst (.bool false))] []:: .dm (.or [(.cmp .NotEq (bD 589 [Dr]) (bD 854 [w_])),(.cmp .NotEq (.bp (bw Bi 0) 13 []) (bD 906 [jS]))]) [dj (.cst (.bool false))] []::Rk
section
variable{G:Hp}
theorem aaa(R:Rd af w K)(I:Inv (a0,l.map λx:Nat=>V.int (x:Int)) pl A.gl B.kl wa 0 H g)(M:i5 H g 20 A h sn rej cj)(p:jv h sn cj A.tr 0)(KB:Iw H g B c)(E:c.Good)(l0:l≠[])(lz:l.length<=24)(lx:∀x∈l,x<1000000)(L:LR ρ (a0,l.map λx:Nat=>V.int (x:Int)) pl A.gl B.kl wa hd dY)(U:ρ 8=some (.ref A.m))(W:ρ 6=some (.ref B.kr))(hh:hd<2^30)(hb:dY<2^57)(j:aB 11 n=true)(q:∀a,Q (.bool true) a):bO af w K aG n Sw ρ H (dE Q) (cG X):=by
 erw[bf I.yY,(ts P)];have jl:=P.len;have Ed:(aT (ts.map (·.p))).length=ts.length:=by rw[bG,aq]
 have Y:=L.r3;have T:=L.r9;have HG:=L.HG;unfold Sw;erw[Zh,Zy rfl,ZN,ZN,Za,ZJ,<-Zc Y ?_];unfold sU;dsimp only;erw[aj P.h,<-⟨lK Ed jl rfl,pL (λf G a=>a=H/\G=[]/\∃t2:List Tr,f=aT (t2.map (·.p))/\∀z∈t2,tR H g z) _ _ ⟨rfl,rfl,ts,rfl,P.tr⟩ (λG a=>(cA · λe F _=>?_)) λv f G a=>(cA · λe F=>bI λt2 e1 e2 G' g1 g2=>?_)⟩]
 ·subst e;subst F;intro d D;have s:Ext a (upd a d (.list [])):=Ext.fresh Ext.refl D;have S:(upd a d (.list [])) d=some (.list []):=us;generalize upd a d (.list [])=H1 at s S;have O:=I.ext s;have t:=M.keep (.ext s);have N:=t.mb O.cells;have J:=i5.big (C:=O.cells) t p;have K1:=KB.keep (.ext s);have u:=K1.kb.c;have h2:([V.ref B.cm,.ref B.kr]).length<=100000:=dc rfl;erw[Zb,dV S (dc rfl),<-j_ (λz=>absurd z (dc rfl)) (λ_=>?_),Zi,Ze,Zd,Zh,ZT,Zn,ZH,<-Zz U ?_,<-fS R t.hm t.he N.BL.OP N.sn.OC J.big (lv j rfl) (λ_=>?_) (λz=>absurd J.Iq z),<-Zz T ?_,rN R N J (lv j rfl),pO,ZM,Zn,ZH,Zm,Zo rfl,<-Zc HG ?_,aw K1.kb.k h2 rfl];unfold Cm.o at u;erw[bC u rfl,Zb,bt u rfl,<-kO R K1.kb.c E.b (lv j rfl) (λ_=>?_) (λz=>absurd E.i z),<-Zz W ?_,yF R K1.kb.r E (lv j rfl),pO,ZM,ZD,Zi,Ze,Zd,<-abF R O l0 lz lx L hh hb j q]
 ·replace e:=e.symm;subst e
  induction t2 using lcs with
  |nil=>injection e1
  |cons z t2=>
   injection e1 with e1 e6
   subst e1;replace e6:=e6.symm;subst e6;erw[ZP,Zaa rfl,oo R I.cells (e2 z j4) (lv j rfl),Zx,<-g1 _ P.h ⟨rfl,F,t2,rfl,λy hy=>e2 y (fR hy)⟩]
end
def Su:List S:=.bq 12 (.bin .Sub (.bin .Pow (ek 128) (.bin .Add (ek 1) (.bin .Mod dB (ek 8)))) (ek 1)):: .bq 13 (.lst [(.call (.cls 732 666) [IQ]),IQ,(.lst [])])::Sw
section
variable{G:Hp}
theorem al(C:Cells H g)(K:Claim H g)(h:H a=none)(c:5<n):Cells (upd H a mo) (g.set a n)/\Claim (upd H a mo) (g.set a n)/\bJ (λn=>n≠0) H g (upd H a mo) (g.set a n)/\(g.set a n).R a=n:=by
 have k:=bJ.alloc (n:=n) (mo:=mo) K h;refine⟨C.keep (k.sub λn h=>by exact λY=>cH [(zn 1,av),(av,zn 0)] rt h.1 (aa Y)) (λ_ _ _=>rfl) λb h1 h2=>?_,(K.ext (Ext.fresh Ext.refl h)).set (by rw[cY];exact λz=>nomatch z),k,gM⟩
 by_cases e:b=a
 ·rw[e,gM] at h2;exact aS ((cH [(zs (zn 5),av),(av,zn 5)] rt c h2).elim) ((cH [(zs (zn 5),av),(av,zn 5)] rt c h2).elim)
 ·exact(fp e).symm
theorem abw(R:Rd af w K)(C:Cells H g)(cl:Claim H g)(P:gu H g pl ts)(N:wB H g (a0,l.map λx:Nat=>V.int (x:Int)))(M:i5 H g 20 A h sn rej cj)(p:jv h sn cj A.tr 0)(KB:Iw H g B c)(gc:c.Good)(l0:l≠[])(lz:l.length<=24)(lx:∀x∈l,x<1000000)(r1:ρ 1=some (.ref a0))(r2:ρ 2=some (.int (hd:Int)))(r3:ρ 3=some (.ref pl))(r9:ρ 9=some (.ref A.gl))(HG:ρ 11=some (.ref B.kl))(r8:ρ 8=some (.ref A.m))(r6:ρ 6=some (.ref B.kr))(hh:hd<2^30)(G:aB 11 n=true)(q:∀H',Q (.bool true) H'):bO af w K aG n Su ρ H (dE Q) (cG X):=by
 have m8:hd%8<8:=k_;unfold Su;erw[Zg,Zv rfl,ZI rfl,ZI rfl,Zv rfl,<-Zc r2 ?_,dI rfl,Zw,aj (show(1:Int)+((hd%8:Nat):Int)=((1+hd%8:Nat):Int) by exact Me),<-⟨ir,ax.mpr (dJ [(zs av,zn 8)] (zp (zn 1) av,zn 1000) rt k_),by decide,?_⟩];rw[zO];have p1:128^(1+hd%8)<=128^8:=d0 (dc rfl) (dJ [(zs av,zn 8)] (zp (zn 1) av,zn 8) rt k_);have p0:128^1<=128^(1+hd%8):=d0 (dc rfl) (dJ [] (zn 1,zp (zn 1) av) rt);have p8:(128:Nat)^8=72057594037927936:=dc rfl;erw[Z3,Zg,eP rfl,Za,aj (show((128^(1+hd%8):Nat):Int)-1=((128^(1+hd%8)-1:Nat):Int) by exact da (oY [(.sub cN (yn 1),dW)] (.sub cN (yn 1),dW) rt (aF (ao (cW (ax.mp (oG [(yn 128,cN)] (yn 1,cN) rt (ax.mpr p0))))))) (oY [(cN,.sub dW (yn 1))] (cN,.sub dW (yn 1)) rt (aF (cW (ax.mp (oG [(yn 128,cN)] (yn 1,cN) rt (ax.mpr p0)))))))];generalize WA:128^(1+hd%8)-1=dY;erw[ZQ,ZF rfl,(u hu),<-GV R hu (lv G rfl) λb TS L=>⟨rfl,?_⟩,dX (al (n:=9) (mo:=.list []) C cl TS (dc rfl)),(C1 Dt k1 e1)];have h1:(upd H b (.list [])) b=some (.list []):=us;have D:(upd H b (.list [])) u=none:=(dp _ _ L).trans hu;generalize upd H b (.list [])=H1 at C1 Dt k1 h1 D;generalize g.set b 9=g1 at C1 Dt k1 e1;erw[dX (al (n:=8) (mo:=B4 b dY) C1 Dt D (dc rfl)),(C2 Lr W e2)];have h2:(upd H1 u (B4 b dY)) u=some (B4 b dY):=us;generalize upd H1 u (B4 b dY)=H2 at C2 Lr W h2;generalize g1.set u 8=g2 at C2 Lr W e2;erw[Zr rfl,Za,eP rfl,Zb,(d Tf),dX (al (n:=10) (mo:=.list []) C2 Lr Tf (dc rfl)),(C3 N4 U e3)];have h3:(upd H2 d (.list [])) d=some (.list []):=us;generalize upd H2 d (.list [])=H3 at C3 N4 U h3;generalize g2.set d 10=g3 at C3 N4 U e3;erw[(t hwl),dX (al (n:=7) (mo:=.list [.ref u,.int (dY:Int),.ref d]) C3 N4 hwl (dc rfl)),(C4 s y e4)];have h4:(upd H3 t (.list [.ref u,.int (dY:Int),.ref d])) t=some (.list [.ref u,.int (dY:Int),.ref d]):=us;generalize upd H3 t (.list [.ref u,.int (dY:Int),.ref d])=H4 at C4 s y h4;generalize g3.set t 7=g4 at C4 s y e4;have j:=U.trans y;have Q6:=W.trans j;have k:=k1.trans Q6;have F:∀{S:Nat->Prop},(¬S 0)->∀n,S n->n≠0:=λz n G e=>z (e▸G);have M4:=M.keep (k.sub (F (by unfold oz;decide)));have E:=KB.keep (k.sub (F (dc rfl)));have f:∀{a:Addr} {i:Nat} {J:Hp} {Y:Gh},bJ (λn=>n≠0) J Y H4 g4->Y.R a=i->i≠0->g4.R a=i:=λT e O=>(T.r _ (aj e O)).trans e;have o:∀{a:Addr} {i:Nat} {J:Hp} {Y:Gh} {v:MO},bJ (λn=>n≠0) J Y H4 g4->Y.R a=i->i≠0->J a=some v->H4 a=some v:=λT e O q=>T.h _ _ (aj e O) q;have I:Inv (a0,l.map λx:Nat=>V.int (x:Int)) pl A.gl B.kl t 0 H4 g4:=⟨C4,s,⟨ts,P.keep (k.sub (F (dc rfl)))⟩,⟨A,h,sn,rej,cj,rfl,M4,p⟩,⟨B,c,rfl,E,gc⟩,
  ⟨⟨t,u,b,d⟩,dY,[],rfl,⟨h4,o j e2 (dc rfl) h2,o Q6 e1 (dc rfl) h1,o y e3 (dc rfl) h3,(λ_ z=>nomatch z),.nil,e4,f j e2 (dc rfl),f Q6 e1 (dc rfl),f y e3 (dc rfl)⟩,⟨gF [(zn 128,av),(aW,bT),(av,zs aW)] (zn 110,zk bT 0) rt p0 (aa WA) (aa (ao (bM (dJ [(zn 128,av)] (zn 1,av) rt p0)))),gF [(av,aW),(bT,zn 72057594037927936),(aW,bT)] (av,zp (zn 144115188075855872) (zm 100 (zn 0))) rt (aa (ao WA)) p1 (iW _ _),by decide⟩⟩,N.keep (k.sub (F (dc rfl)))⟩
 exact aaa R I M4 p E gc l0 lz lx ⟨r1,r2,r3,r9,HG,rfl,rfl⟩ r8 r6 hh (gF [(av,aW),(bT,zn 72057594037927936),(aW,bT)] (zs av,zn 144115188075855872) rt (aa (ao WA)) p1 (iW _ _)) G q
end
def NH:List S:=.bq 11 (.lst [(.call (.cls 627 610) [(bw jS 0),(bw jS 1),(bw jS 2),(bw jS 3),(bw jS 4),(bw jS 5)]),jS])::Su
def Rb:List S:=.bq 5 (bD 743 [bA,(ek 7)]):: .bq 6 (.lst [(.bin .Mod fG (ek 7)),(bD 750 [(.bin .FloorDiv fG (ek 7))]),(bD 750 [(.bin .FloorDiv fG (ek 77))]),(bD 764 [(.bin .FloorDiv fG (ek 3))]),(bD 764 [(.bin .FloorDiv fG (ek 13))]),(.cst .none)]):: .dm (.cmp .Eq (.bin .Mod fG (ek 2)) (ek 1)) [.hK jS (ek 5) (bD 764 [(.bin .FloorDiv fG (ek 17))])] []::NH
section
variable{G:Hp}
theorem QZ(R:Rd af w K){c:Cm}(C:Cells H g)(cl:Claim H g)(P:gu H g pl ts)(N:wB H g (a0,l.map λx:Nat=>V.int (x:Int)))(M:i5 H g 20 A h sn rej cj)(p:jv h sn cj A.tr 0)(d:H kr=some (.list c.vs))(y:g.R kr=13)(W:c.Good)(l0:l≠[])(O:l.length<=24)(T:∀x∈l,x<1000000)(J:ρ 1=some (.ref a0))(I:ρ 2=some (.int (hd:Int)))(G:ρ 3=some (.ref pl))(E:ρ 9=some (.ref A.gl))(F:ρ 8=some (.ref A.m))(b:ρ 6=some (.ref kr))(U:hd<2^30)(j:aB 11 n=true)(q:∀H',Q (.bool true) H'):bO af w K aG n NH ρ H (dE Q) (cG X):=by
 have h6:c.vs.length<=100000:=dc rfl;unfold NH;erw[Zg,eP rfl,Za,ZQ,Za,Zo rfl,<-Zc b ?_,aw d h6 rfl,Za,Zo rfl,<-Zc b ?_,aw d h6 rfl,Za,Zo rfl,<-Zc b ?_,aw d h6 rfl,Za,Zo rfl,<-Zc b ?_,aw d h6 rfl,Za,Zo rfl,<-Zc b ?_,aw d h6 rfl,Za,Zo rfl,<-Zc b ?_,aw d h6 rfl,Zb,(a Fg),<-yl R (lv j rfl) ⟨rfl,?_⟩,dX (al (n:=12) (mo:=c.o) C cl Fg (dc rfl)),(v D t e1)];have h1:(upd H a c.o) a=some c.o:=us;show gY af w K aG n _ _ (upd H a c.o) _ _;generalize upd H a c.o=H1 at v D t h1;generalize g.set a 12=g1 at v D t e1;erw[<-ZF b ?_,(f Ph),dX (al (n:=11) (mo:=.list [.ref a,.ref kr]) v D Ph (dc rfl)),(u L i e2)];have h2:(upd H1 f (.list [.ref a,.ref kr])) f=some (.list [.ref a,.ref kr]):=us;generalize upd H1 f (.list [.ref a,.ref kr])=H2 at u L i h2;generalize g1.set f 11=g2 at u L i e2;have k:=t.trans i;have s:∀{S:Nat->Prop},(¬S 0)->∀n,S n->n≠0:=λz n j e=>z (e▸j);have Y:g1.R a≠0:=by refine' aj e1 ?_;decide
 have B:g.R kr≠0:=by refine' aj y ?_;decide
 have KB:Iw H2 g2 ⟨f,a,kr⟩ c:=⟨⟨h2,i.h _ _ Y h1,k.h _ _ B d⟩,e2,(i.r _ Y).trans e1,(k.r _ B).trans y⟩;exact abw R u L (P.keep (k.sub (s (dc rfl)))) (N.keep (k.sub (s (dc rfl)))) (M.keep (k.sub (s (by unfold oz;decide)))) p KB W l0 O T J I G E rfl F b U j q
theorem WJ(R:Rd af w K)(C:Cells H g)(cl:Claim H g)(P:gu H g pl ts)(N:wB H g (a0,l.map λx:Nat=>V.int (x:Int)))(M:i5 H g 20 A h sn rej cj)(p:jv h sn cj A.tr 0)(l0:l≠[])(o:l.length<=24)(u:∀x∈l,x<1000000)(r:ρ 1=some (.ref a0))(r2:ρ 2=some (.int (hd:Int)))(r3:ρ 3=some (.ref pl))(r9:ρ 9=some (.ref A.gl))(r8:ρ 8=some (.ref A.m))(hh:hd<2^30)(a:aB 11 n=true)(q:∀H',Q (.bool true) H'):bO af w K aG n Rb ρ H (dE Q) (cG X):=by
 unfold Rb;erw[Zg,<-ZU r rfl ?_,tu R N.h l0 (dK o rfl) u (dc rfl) (lv a rfl),(y hy)];have t:y<2^39:=b_ hy (dc rfl);have m7:y%7<7:=k_;erw[Zg,eP rfl,Za,Zs rfl rfl,dI rfl,Za,Zq,Za,Zs rfl rfl,dS rfl (iM t).big rfl,Zb,jc R (iM (vY t 7)) (lv a rfl),(b JY),Za,Zq,Za,Zs rfl rfl,dS rfl (iM t).big rfl,Zb,jc R (iM (vY t 77)) (lv a rfl),(v JP),Za,Zq,Za,Zs rfl rfl,dS rfl (iM t).big rfl,Zb,md R (iM (vY t 3)) (lv a rfl),(f I),Za,Zq,Za,Zs rfl rfl,dS rfl (iM t).big rfl,Zb,md R (iM (vY t 13)) (lv a rfl),(c G),ZF rfl,(k E)];have gd:∀J:Option (List UInt8),(∀d,J=some d->d.length<=200)->(⟨(y%7:Nat),b,v,f,c,J⟩:Cm).Good:=λJ hx=>⟨⟨du (JS k_ rfl),du (JS JY rfl),du (JS JP rfl),by exact dK I rfl,by exact dK G rfl,hx⟩,⟨ir,by exact Vv,⟨ir,by exact oE JY⟩,⟨ir,by exact oE JP⟩⟩⟩;erw[dX (al (n:=13) (mo:=.list (⟨(y%7:Nat),b,v,f,c,none⟩:Cm).vs) C cl E (dc rfl)),(j D i e1)];have h1:(upd H k (.list (⟨(y%7:Nat),b,v,f,c,none⟩:Cm).vs)) k=some (.list (⟨(y%7:Nat),b,v,f,c,none⟩:Cm).vs):=us;show bO af w K aG n _ _ (upd H k (.list (⟨(y%7:Nat),b,v,f,c,none⟩:Cm).vs)) _ _;generalize upd H k (.list (⟨(y%7:Nat),b,v,f,c,none⟩:Cm).vs)=H1 at j D i h1;generalize g.set k 13=g1 at j D i e1;have s:∀{S:Nat->Prop},(¬S 0)->∀n,S n->n≠0:=λz n a e=>z (e▸a);have P1:=P.keep (i.sub (s (dc rfl)));have N1:=N.keep (i.sub (s (dc rfl)));have M1:=M.keep (i.sub (s (by unfold oz;decide)));erw[Zh,Zy rfl,Zs rfl rfl,dI rfl,<-cq (λ_=>?_) (λ_=>?_)]
 ·erw[Zp,ZK,Zq,Za,Zs rfl rfl,dS rfl (iM t).big rfl,Zb,md R (iM (vY t 17)) (lv a rfl),(L F),Zc rfl,ZA,i_ h1 (dc rfl) (dc rfl) (dc rfl)];have B:bJ (λn=>n≠13) H1 g1 (upd H1 k (.list (⟨(y%7:Nat),b,v,f,c,some L⟩:Cm).vs)) g1:=.upd (aj e1 (dc rfl));have h2:(upd H1 k (.list (⟨(y%7:Nat),b,v,f,c,some L⟩:Cm).vs)) k=some (.list (⟨(y%7:Nat),b,v,f,c,some L⟩:Cm).vs):=us;erw[Ze,Zd,<-QZ R (j.off (aj e1 (dc rfl))) D.upd (P1.keep (B.sub λn h=>by exact λY=>h.elim (λW=>cH [(zn 13,av),(av,zn 1)] rt (aa (ao Y)) (aa W)) (λW=>W.elim (λO=>cH [(zn 13,av),(av,zn 3)] rt (aa (ao Y)) (aa O)) (λO=>cH [(zn 13,av),(av,zn 6)] rt (aa (ao Y)) (aa O))))) (N1.keep (B.sub λn h=>by exact UK h rfl)) (M1.keep (B.sub λn h=>by unfold oz at h;exact λU=>h.elim (λCF=>cH [(zn 13,av),(av,zn 1)] rt (aa (ao U)) (aa CF)) (λCF=>CF.elim (λT=>cH [(zn 13,av),(av,zn 3)] rt (aa (ao U)) (aa T)) (λT=>cH [(av,zn 13),(zn 20,av)] rt (aa U) T.1)))) p h2 e1 (gd _ λd hd=>by injection hd with hd;subst hd;exact dK F rfl) l0 o u r r2 r3 r9 r8 rfl hh a q]
 ·erw[Zi,Ze,Zd,<-QZ R j D P1 N1 M1 p h1 e1 (gd _ λd hd=>nomatch hd) l0 o u r r2 r3 r9 r8 rfl hh a q]
end
def UA:List S:=.dm (.cmp .Lt (.bin .Mod (.bin .FloorDiv dB (ek 3)) (ek 4)) (ek 3)) [.expr (bD 892 [w_,(.lst [(bD 750 [(.bin .FloorDiv fG (ek 5))]),(bD 750 [(.bin .FloorDiv fG (ek 7))]),(.lst [(.bin .Add (ek 1) (.bin .Mod fG (ek 5)))]),(.cmp .Eq (.bin .Mod fG (ek 3)) (ek 0)),(bD 764 [(.bin .FloorDiv fG (ek 11))])])])] []::Rb
section
variable{G:Hp}
theorem runC(R:Rd af w K)(C:Cells H g)(cl:Claim H g)(P:gu H g pl ts)(N:wB H g (a0,l.map λx:Nat=>V.int (x:Int)))(M:i5 H g 20 A h none rej cj)(p:jv h none cj A.tr 0)(l0:l≠[])(lz:l.length<=24)(lx:∀x∈l,x<1000000)(r1:ρ 1=some (.ref a0))(L:ρ 2=some (.int (hd:Int)))(r3:ρ 3=some (.ref pl))(r:ρ 5=some (.int (y:Int)))(J:ρ 9=some (.ref A.gl))(r8:ρ 8=some (.ref A.m))(hy:y<2^30)(T:hd<2^30)(j:aB 11 n=true)(q:∀H',Q (.bool true) H'):bO af w K aG n UA ρ H (dE Q) (cG X):=by
 have t:y<2^39:=b_ hy (dc rfl);have TU:hd<2^39:=b_ T (dc rfl);unfold UA;erw[Zh,Zy rfl,Zv rfl,Zv rfl,<-Zc L ?_,dS rfl (iM TU).big rfl,dI rfl,<-fC (λ_=>?_) (λ_=>?_)]
 ·erw[Zp,Zk,Zq,<-Zr J ?_,Za,eP rfl,Za,Zq,Za,Zv rfl,<-Zc r ?_,dS rfl (iM t).big rfl,Zb,jc R (iM (vY t 5)) (lv j rfl),(F JY),Za,Zq,Za,Zv rfl,<-Zc r ?_,dS rfl (iM t).big rfl,Zb,jc R (iM (vY t 7)) (lv j rfl),(E JP),Za,eP rfl,Za,ZI rfl,Zv rfl,<-Zc r ?_,dI rfl,Zw,Zb,(s2 Ee),Za,Zai rfl,Zv rfl,<-Zc r ?_,dI rfl];have br:∀{a b:Int} {G:Bool->Prop} {H:Hp},(∀u:Bool,G u)->jF .Eq (.int a) (.int b) H G:=λh=>cq (λ_=>h true) λ_=>h false;erw[br,(u),Za,Zq,Za,Zv rfl,<-Zc r ?_,dS rfl (iM t).big rfl,Zb,md R (iM (vY t 11)) (lv j rfl),(d U),Zb,(sl D)];have e2:([.int (1+((y%5:Nat):Int))]:List V)=iv [1+((y%5:Nat):Int)]:=rfl;rw[e2] at D⊢;have h5:y%5<5:=k_;generalize o:([1+((y%5:Nat):Int)])=ids at D⊢;have Y:w9 ids:=by
   erw[c_ o,<-⟨fA _ _,by show 1<=30;decide,λi S=>by erw[aj (aR.mp S),<-⟨VB,ax.mpr (dJ [(zs av,zn 5)] (zp (zn 1) av,zn 18446744073709551615) rt k_)⟩]⟩]
  erw[aD (bo D),(I WR)];have e3:([.int (F:Int),.int (E:Int),.ref s2,.bool u,.bytes d]:List V)=(Sn.mk (F:Int) (E:Int) ids u d).vs s2:=rfl;erw[aj e3];generalize Xn:Sn.mk F E ids u d=s;have v:s.ids=ids:=by refine' c_ Xn ?_;rfl
  have B:Ext H (upd (upd H s2 (.list (iv ids))) sl (.list (s.vs s2))):=(Ext.fresh Ext.refl Ee).trans (Ext.fresh Ext.refl D);have c2:(upd (upd H s2 (.list (iv ids))) sl (.list (s.vs s2))) s2=some (.list (iv ids)):=ae (aJ WR) us;have c1:(upd (upd H s2 (.list (iv ids))) sl (.list (s.vs s2))) sl=some (.list (s.vs s2)):=us;generalize U7:upd (upd H s2 (.list (iv ids))) sl (.list (s.vs s2))=H2 at B c1 c2⊢;have Ok:s.Ok:=by
   erw[c_ Xn,<-⟨⟨ir,by exact oE JY⟩,⟨ir,by exact oE JP⟩,Y,by exact dK U rfl⟩]
  erw[BF R (cl.ext B) (M.keep (.ext B)) (cl.fresh I) (cl.fresh Ee) c1 (aj v c2) Ok (aj v (c_ o (λe=>(nomatch e)))) (lv j rfl),(H' g' z k e b W M')];have O:=(bJ.ext B).trans (k.sub λn h=>by exact Yu h);erw[Ze,Zd,<-WJ R (C.keep (O.sub λn h=>by exact Sy h) (λa _ _=>by erw[aj e];rfl) λa h1 h2=>?_) W (P.keep (O.sub λn h=>by exact WW h)) (N.keep (O.sub λn h=>by exact Xu h)) M' ⟨p.hi,p.zv,p.len,λs' f=>?_,p.c⟩ l0 lz lx r1 L r3 J r8 T j q]
  ·rcases b a with h|h
   ·exact h.symm
   ·exact aS ((cH [(zn 25,av),(av,zn 5)] rt h h2).elim) ((cH [(zn 25,av),(av,zn 5)] rt h h2).elim)
  ·injection f with f;subst f
   refine⟨Ok,(aj v (c_ o (λe=>(nomatch e)))),?_,?_⟩
   ·erw[aj v,c_ o];show 1<=0+1;decide
   ·erw[aj v,c_ o,(i S),aj (aR.mp S),<-ax.mpr (dJ [(zs av,zn 5)] (zp (zn 1) av,zm 200 (zs (zn 0))) rt k_)]
 ·erw[Zi,Ze,Zd,<-WJ R C cl P N M p l0 lz lx r1 L r3 J r8 T j q]
end
def LJ:List S:=.cD Dr 15 (.comp (bw (.loc 1000) 0) (bw w_ 3) none):: .cD Dr 18 (bw w_ 2):: .cD Dr 20 (bw w_ 5)::UA
def MM:List S:=.forR 10 (some (ek 4)) (ek 8) [.expr (bD 885 [w_,Ei,(.sub AZ Ei)])]::LJ
def Rj:List S:=.bq 5 (bD 743 [bA,(ek 6)]):: .bq 7 (.bin .Add (.lst [(.bin .Mod (.bin .FloorDiv dB (ek 5)) (ek 21))]) (.j6 (bD 750 [(.bin .FloorDiv fG (.bin .Pow (ek 3) (.loc 1000)))]) (ek 7))):: .bq 8 (.call (.cls 578 565) [(bw AZ 0),(bw AZ 1),(bw AZ 2),(bw AZ 3)]):: .bq 9 (.lst [Dr,AZ,(.cmp .Eq (.bin .Mod fG (ek 2)) (ek 1)),(.A0 dP none (some (.sub (.tup [(ek 2),(ek 1),(ek 3),(ek 0)]) (.bin .Mod fG (ek 4))))),(.cst .none),(bD 764 [(.bin .FloorDiv fG (ek 9))])])::MM
theorem Jm(h:Nat->Int)(f:Nat):hM h f (h f)=h:=funext λj=>by
 unfold hM
 split
 ·next e=>refine' aj e ?_;rfl
 ·rfl
theorem aaU(e:Nat):(3:Int)^((e:Nat):Int).toNat=((3^e:Nat):Int):=by rw[aL];simp
theorem GP(e:∀j,j<8->h j=k j):dD h me v r c=dD k me v r c:=by
 unfold dD;erw[aj (e 0 (dc rfl)),aj (e 1 (dc rfl)),aj (e 2 (dc rfl)),aj (e 3 (dc rfl)),aj (e 4 (dc rfl)),aj (e 5 (dc rfl)),aj (e 6 (dc rfl)),aj (e 7 (dc rfl))];rfl
section
variable{G:Hp}
theorem Yx(R:Rd af w K){A:CK}(ea:A.sa=none)(C:Cells H g)(cl:Claim H g)(P:gu H g pl ts)(N:wB H g (a0,l.map λx:Nat=>V.int (x:Int)))(p:jv h none cj A.tr 0)(hs:∀z∈A.tr,z∈ts)(hg:H A.gl=some (.list (A.gv rej cj)))(hm:H A.m=some (dD h me .none false []))(hu:H A.nu=some (.list (hl h)))(h3:H A.g3=some (.list (aT (A.tr.map (·.p)))))(u:g.R A.gl=20)(d:g.R A.m=21)(D:g.R A.nu=22)(I:g.R A.g3=23)(l0:l≠[])(lz:l.length<=24)(lx:∀x∈l,x<1000000)(r1:ρ 1=some (.ref a0))(r2:ρ 2=some (.int (hd:Int)))(r3:ρ 3=some (.ref pl))(r5:ρ 5=some (.int (y:Int)))(v:ρ 9=some (.ref A.gl))(B:ρ 8=some (.ref A.m))(hy:y<2^30)(hh:hd<2^30)(F:aB 11 n=true)(q:∀H',Q (.bool true) H'):bO af w K aG n LJ ρ H (dE Q) (cG X):=by
 rcases A with⟨gl,m,nu,g3,m0,tr,sa⟩
 dsimp only at*;subst ea;have h6:∀r c,(CK.gv ⟨gl,m,nu,g3,m0,tr,none⟩ r c).length<=100000:=λr c=>by show 6<=100000;decide
 have l5:=p.len;unfold LJ;erw[Zu,ZJ,Zo rfl,<-Zc v ?_,aw hg (h6 _ _) rfl,<-tF (λz=>.ref z.e) h3 (dK l5 rfl) (λz s G' hG=>?_) λc hc=>?_]
 ·erw[Zf rfl rfl,<-aw (P.tr z (hs z s)).h (dc rfl) rfl hG]
 have ee:tr.map (λz=>V.ref z.e)=aT (tr.map (·.e)):=by unfold aT;refine' aj eg ?_;rfl
 erw[aj ee,dX (al (n:=24) (mo:=.list (aT (tr.map (·.e)))) C cl hc (dc rfl)),(T O k e1)];have h1:(upd H c (.list (aT (tr.map (·.e))))) c=some (.list (aT (tr.map (·.e)))):=us;generalize upd H c (.list (aT (tr.map (·.e))))=H1 at T O k h1;generalize g.set c 24=g1 at T O k e1;have Y:∀{S:Nat->Prop},(¬S 0)->∀n,S n->n≠0:=λz n F e=>z (e▸F);have P1:=P.keep (k.sub (Y (dc rfl)));have N1:=N.keep (k.sub (Y (dc rfl)));have st:∀{a:Addr} {i:Nat},g.R a=i->i≠0->g1.R a=i:=λe j=>(k.r _ (aj e j)).trans e;have t:∀{a:Addr} {i:Nat} {b:MO},g.R a=i->i≠0->H a=some b->H1 a=some b:=λe j q=>k.h _ _ (aj e j) q;have QH:=t u (dc rfl) hg;have W:=t d (dc rfl) hm;have E:=t D (dc rfl) hu;have G:=t I (dc rfl) h3;have Og:=bX d u (dc rfl);unfold dD at W;erw[<-Zc B ?_,bQ W rfl rfl,Zu,Zo rfl,<-Zc v ?_];have Y_:=λy=>ae (mo:=y) (aJ Og) QH;erw[aw (Y_ _) (h6 _ _) rfl,<-Zc B ?_,bQ us rfl rfl,Zu,Zo rfl,<-Zc v ?_];have YA:=λy z=>ae (mo:=z) (aJ Og) (Y_ y);erw[aw (YA _ _) (h6 _ _) rfl,<-Zc B ?_,bQ us rfl rfl];rw[bR,bR];have M:i5 (upd H1 m (dD h c (yN none) rej cj)) g1 20 ⟨gl,m,nu,g3,c,tr,none⟩ h none rej cj:=by
  have o:bJ (λn=>n≠21) H1 g1 (upd H1 m (dD h c (yN none) rej cj)) g1:=.upd (aj (st d (dc rfl)) (dc rfl));have f:∀{a:Addr} {i:Nat} {b:MO},g1.R a=i->i≠21->H1 a=some b->(upd H1 m (dD h c (yN none) rej cj)) a=some b:=λe j q=>o.h _ _ (aj e j) q;exact⟨f (st u (dc rfl)) (dc rfl) QH,us,f (st D (dc rfl)) (dc rfl) E,f (st I (dc rfl)) (dc rfl) G,f e1 (dc rfl) h1,λz s=>(P1.tr z (hs z s)).keep o (dc rfl) (dc rfl),trivial,st u (dc rfl),st d (dc rfl),st D (dc rfl),st I (dc rfl),e1,λz s=>nomatch s⟩
 have o:bJ (λn=>n≠21) H1 g1 (upd H1 m (dD h c (yN none) rej cj)) g1:=.upd (aj (st d (dc rfl)) (dc rfl));exact runC R (T.off (aj (st d (dc rfl)) (dc rfl))) O.upd (P1.keep (o.sub λn h=>by exact λJ=>h.elim (λL=>cH [(zn 21,av),(av,zn 1)] rt (aa (ao J)) (aa L)) (λL=>L.elim (λU=>cH [(zn 21,av),(av,zn 3)] rt (aa (ao J)) (aa U)) (λU=>cH [(zn 21,av),(av,zn 6)] rt (aa (ao J)) (aa U))))) (N1.keep (o.sub λn h=>by exact UK h rfl)) M p l0 lz lx r1 r2 r3 r5 v B hy hh F q
end
theorem Oo{v:V}(e:done++v::rest=[.int 4,.int 5,.int 6,.int 7]):v=.int ((4+done.length:Nat):Int)/\done.length<4:=by
 have e1:=congrArg (λl:List V=>l[done.length]?) e;rw[iS qt,ou] at e1;have e2:=congrArg cF e;rw[ah] at e2;have e3:=e2;have l4:done.length<4:=by exact fe [(zp av (zs aW),zn 4)] (zs av,zn 4) rt (aa e3)
 generalize done.length=k at e1 l4;refine⟨?_,l4⟩;revert e1;refine VD l4 ?_ ?_ ?_ ?_<;>exact λe1=>bV e1
section
variable{G:Hp}
theorem PN{lo a:E}(h:dk af w K aG n lo ρ H (λu d=>∃j,u=.int j/\dk af w K aG n a ρ d (λv c=>∃k,v=.int k/\(0:Int)<=j/\j<=(1000:Int)/\0<=k/\k<=1000/\forL (λv ρ H Q=>bO af w K aG n b (upd ρ x v) H Q X) (λ_=>True) (gH j k) ρ c (h_ af w K n ms F X)) X) X):
  bO af w K aG n (.forR x (some lo) a b::ms) ρ H F X:=h
theorem YD(R:Rd af w K){A:CK}(ea:A.sa=none)(C:Cells H g)(cl:Claim H g)(P:gu H g pl ts)(N:wB H g (a0,l.map λx:Nat=>V.int (x:Int)))(p:jv h none cj A.tr 0)(hs:∀z∈A.tr,z∈ts)(i:H A.gl=some (.list (A.gv rej cj)))(f:H A.m=some (dD h0 me .none false []))(e0:∀j,j<4->h0 j=h j)(d:H A.nu=some (.list (hl h)))(h3:H A.g3=some (.list (aT (A.tr.map (·.p)))))(M:g.R A.gl=20)(L:g.R A.m=21)(I:g.R A.nu=22)(Vb:g.R A.g3=23)(l0:l≠[])(lz:l.length<=24)(lx:∀x∈l,x<1000000)(D:ρ 1=some (.ref a0))(B:ρ 2=some (.int (hd:Int)))(u:ρ 3=some (.ref pl))(t:ρ 5=some (.int (y:Int)))(c:ρ 9=some (.ref A.gl))(o:ρ 8=some (.ref A.m))(s:ρ 7=some (.ref A.nu))(hy:y<2^30)(hh:hd<2^30)(F:aB 11 n=true)(q:∀b,Q (.bool true) b):bO af w K aG n MM ρ H (dE Q) (cG X):=by
 unfold MM;erw[PN,ZA,hY,ZA,hY,<-⟨by decide,by decide,by decide,by decide,?_⟩];refine wR (λr ρ b=>∃done k,done++r=[V.int 4,.int 5,.int 6,.int 7]/\Cells b g/\Claim b g/\gu b g pl ts/\wB b g (a0,l.map λx:Nat=>V.int x)/\b A.gl=some (.list (A.gv rej cj))/\b A.m=some (dD k me .none false [])/\(∀j,j<4+done.length->k j=h j)/\b A.nu=some (.list (hl h))/\b A.g3=some (.list (aT (A.tr.map (·.p))))/\ρ 1=some (.ref a0)/\ρ 2=some (.int hd)/\ρ 3=some (.ref pl)/\ρ 5=some (.int y)/\ρ 9=some (.ref A.gl)/\ρ 8=some (.ref A.m)/\ρ 7=some (.ref A.nu)) _
  ⟨[],h0,rfl,C,cl,P,N,i,f,e0,d,h3,D,B,u,t,c,o,s⟩ (λρ H2=>(HK · λdone k G C cl P N i f e d h3 D B u t c o s=>?_)) λv r ρ b ih=>(HK · λdone k G C cl P N i f e d h3 D B u t c o s=>?_)
 ·have:done.length=4:=by rw[a_] at G;refine' aj G ?_;rfl
  rw[GP λj J=>e j (fe [(zs av,zn 8),(zn 4,aW)] (zs av,zp (zn 4) aW) rt J (aa (ao this)))] at f;erw[Zd,<-Yx R ea C cl P N p hs i f d h3 M L I Vb l0 lz lx D B u t c o hy hh F q]
 ·erw[aD (Oo G),(eI l4)];subst eI;have h8:(hl h).length<=100000:=dc rfl;have f8:4+done.length<8:=by exact dJ [(zs av,zn 4)] (zs (zp (zn 4) av),zn 8) rt l4
  erw[Zk,Zq,<-Zr c ?_,Zr rfl,Za,Zo rfl,<-Zc s ?_,aw d h8 (fh (Mz h f8)),Zb,Nm R (dJ [(zs av,zn 4)] (zp (zn 4) av,zn 7) rt l4) i f d (bX M I (dc rfl)) (lv F rfl)];rw[Jm];erw[Ze];have st:∀a n E,g.R a=n->n≠21->n≠22->b a=some E->(upd (upd b A.nu (.list (hl h))) A.m (dD (hM k (4+done.length) (h (4+done.length))) me .none false [])) a=some E:=λa n E e n1 n2 q=>
   ae (λz=>n1 (c_ e (aj z (aj L rfl)))) (ae (λz=>n2 (c_ e (aj z (aj I rfl)))) q)
  have O:bJ (λn=>n≠21/\n≠22) b g (upd (upd b A.nu (.list (hl h))) A.m (dD (hM k (4+done.length) (h (4+done.length))) me .none false [])) g:=⟨λ_ _=>rfl,λ_ _=>rfl,λa E F q=>st a _ E rfl F.1 F.2 q⟩;refine⟨trivial,ih _ _ ⟨done++[.int (4+done.length:Nat)],_,by erw[c_ G];rewrite[aC];rfl,C.keep (O.sub λn h=>by exact⟨λDh=>cH [(av,zn 5),(zn 21,av)] rt h.2 (aa (ao Dh)),λCz=>cH [(av,zn 5),(zn 22,av)] rt h.2 (aa (ao Cz))⟩) (λ_ _ _=>rfl) (λ_ _ _=>rfl),cl.upd.upd,P.keep (O.sub λn h=>by exact⟨λY=>h.elim (λW=>cH [(zn 21,av),(av,zn 1)] rt (aa (ao Y)) (aa W)) (λW=>W.elim (λT=>cH [(zn 21,av),(av,zn 3)] rt (aa (ao Y)) (aa T)) (λT=>cH [(zn 21,av),(av,zn 6)] rt (aa (ao Y)) (aa T))),λGD=>h.elim (λU=>cH [(zn 22,av),(av,zn 1)] rt (aa (ao GD)) (aa U)) (λU=>U.elim (λFu=>cH [(zn 22,av),(av,zn 3)] rt (aa (ao GD)) (aa Fu)) (λFu=>cH [(zn 22,av),(av,zn 6)] rt (aa (ao GD)) (aa Fu)))⟩),N.keep (O.sub λn h=>by exact⟨λLX=>cH [(av,zn 14),(zn 21,av)] rt (aa h) (aa (ao LX)),λMZ=>cH [(av,zn 14),(zn 22,av)] rt (aa h) (aa (ao MZ))⟩),st _ _ _ M (dc rfl) (dc rfl) i,us,λj J=>?_,ae (bX I L (dc rfl)) us,st _ _ _ Vb (dc rfl) (dc rfl) h3,D,B,u,t,c,o,s⟩⟩;unfold hM
  split
  ·next e=>refine' aj e ?_;rfl
  ·rw[ah] at J;exact e j (by have:=J;exact(ik (by assumption)).elim (λS=>S) (λS=>(Gp [(zs av,zp (zn 4) (zs aW)),(zs (zp (zn 4) aW),av)] rt this S).elim))
end
theorem un(h:l.length=n+1):∃a r,l=a::r/\r.length=n:=by
 induction l using lcs with
 |nil=>injection h
 |cons a r=>exact⟨a,r,rfl,Nat.succ.inj h⟩
theorem WD{ws:List Nat}(h:ws.length=7)(a:Nat)(v:∀x∈ws,x<2^64)(m:a<=20):∃k:Nat->Int,(V.int (a:Int)::ws.map λx:Nat=>V.int (x:Int))=hl k/\(∀j,j<8->rE (k j))/\k 0<=20:=by
 erw[dg (un h),(l l0 e0 t),dg (un t),(i l1 e1 s),dg (un s),(g l2 e2 r),dg (un r),(e l3 e3 q),dg (un q),(d l4 e4 p),dg (un p),(c l5 e5 o),dg (un o),(w l6 e6 n)];have e7:=e0.trans (congrArg (rq l) (e1.trans (congrArg (rq i) (e2.trans (congrArg (rq g) (e3.trans (congrArg (rq e) (e4.trans (congrArg (rq d) (e5.trans (congrArg (rq c) (e6.trans (congrArg (rq w) (List.eq_nil_of_length_eq_zero n))))))))))))));subst e7;have f:∀x∈[l,i,g,e,d,c,w],rE (x:Nat):=λx u=>⟨ir,by have:=v x u;exact oE this⟩;refine⟨λj=>((a::[l,i,g,e,d,c,w]:List Nat)[j]?.getD 0),rfl,λj y=>?_,by exact ax.mpr (dJ [(av,zn 20)] (av,zn 20) rt m)⟩
 induction j using Nat.casesOn with
 |zero=>exact⟨ir,by exact ax.mpr (dJ [(av,zn 20)] (av,zn 18446744073709551615) rt m)⟩
 |succ j=>
  have b:=Nat.lt_of_succ_lt_succ y;have:=f _ (fL b);show rE ((([l,i,g,e,d,c,w]:List Nat)[j]?.getD 0:Nat):Int);erw[aj (bx b),<-this]
theorem L5(l:List Addr)(k:Nat):cut (aT l) none (some (k:Int))=aT (l.take k):=by
 unfold cut aT;dsimp only;rewrite[aL];erw[aj jy];rfl
section
variable{G:Hp}
theorem aa6(R:Rd af w K)(C:Cells H g)(cl:Claim H g)(P:gu H g pl ts)(N:wB H g (a0,l.map λx:Nat=>V.int (x:Int)))(l0:l≠[])(lz:l.length<=24)(lx:∀x∈l,x<1000000)(r1:ρ 1=some (.ref a0))(r2:ρ 2=some (.int (hd:Int)))(r3:ρ 3=some (.ref pl))(hh:hd<2^30)(D:aB 11 n=true)(q:∀o,Q (.bool true) o):bO af w K aG n Rj ρ H (dE Q) (cG X):=by
 have TU:hd<2^39:=b_ hh (dc rfl);have jl:=P.len;have Ed:(aT (ts.map (·.p))).length<=100000:=by rw[bG,aq];exact dK jl rfl
 unfold Rj;erw[Zg,<-ZU r1 rfl ?_,tu R (i:=6) N.h l0 (by exact dK lz rfl) lx (dc rfl) (lv D rfl),(y hy)];have tX:y<2^39:=b_ hy (dc rfl);erw[Zg,ZC,eP rfl,Za,Zv rfl,Zv rfl,<-Zc r2 ?_,dS (y:=5) rfl (iM TU).big rfl,dI (y:=21) rfl,Zb,(c1 hc1)];have x1:Ext H (upd H c1 (.list [.int ((hd / 5%21:Nat):Int)])):=Ext.fresh Ext.refl hc1;have f1:(upd H c1 (.list [.int ((hd / 5%21:Nat):Int)])) c1=some (.list [.int ((hd / 5%21:Nat):Int)]):=us;generalize upd H c1 (.list [.int ((hd / 5%21:Nat):Int)])=H1 at x1 f1;erw[Zag,ZA,<-⟨7,rfl,by decide,by decide,?_⟩,aj (show(7:Int)=((7:Nat):Int) from rfl)];rewrite[vd];refine mD (λt cL o=>o=H1/\∃done ws,done++t=nk 7/\cL=ws.map (λx:Nat=>V.int (x:Int))/\ws.length=done.length/\∀x∈ws,x<2^64) _ [] ⟨rfl,[],[],rfl,rfl,rfl,λ_ h=>nomatch h⟩ (λcL o=>gk λe=>(fX · λdone ws e1 e2 e3 e4=>?_)) λv t cL o=>gk λe=>(fX · λdone ws e1 e2 e3 e4 G' g1=>?_)
 ·subst e;subst e2;intro c2 Bk;have w7:ws.length=7:=by refine' aj e3 ?_;refine' c_ (a_ done) ?_;refine' aj e1 ?_;rfl
  have x2:Ext o (upd o c2 (.list (ws.map λx:Nat=>V.int (x:Int)))):=Ext.fresh Ext.refl Bk;have f2:(upd o c2 (.list (ws.map λx:Nat=>V.int (x:Int)))) c2=some (.list (ws.map λx:Nat=>V.int (x:Int))):=us;generalize upd o c2 (.list (ws.map λx:Nat=>V.int (x:Int)))=H2 at x2 f2;erw[Cw (x2 _ _ f1) f2 (by rewrite[aq];erw[aj w7];show 1+7<=100000;decide),(c Ho),cX (WD w7 (hd / 5%21) e4 (by have:hd / 5%21<21:=k_;exact dJ [(zs av,zn 21)] (av,zn 20) rt k_)),(h eh hi zv)];have e5:([V.int ((hd / 5%21:Nat):Int)]++ws.map λx:Nat=>V.int (x:Int))=hl h:=eh;erw[aj e5];have QA:=x1.trans x2;have C2:=C.ext QA;have Lr:=cl.ext QA;erw[dX (al (n:=22) (mo:=.list (hl h)) C2 Lr Ho (dc rfl)),(C3 N4 k3 f)];have J:(upd H2 c (.list (hl h))) c=some (.list (hl h)):=us;have kx:=(bJ.ext QA).trans k3;generalize upd H2 c (.list (hl h))=H3 at C3 N4 J kx;clear k3;generalize g.set c 22=g3 at C3 N4 kx f;have h8:(hl h).length<=100000:=dc rfl;erw[Zg,ZQ,Za,Zf rfl rfl,aw (v:=.int (h 0)) J h8 rfl,Za,Zf rfl rfl,aw (v:=.int (h 1)) J h8 rfl,Za,Zf rfl rfl,aw (v:=.int (h 2)) J h8 rfl,Za,Zf rfl rfl,aw (v:=.int (h 3)) J h8 rfl,Zb,(m hm),<-nW R hm (lv D rfl) λB OI nme=>⟨rfl,?_⟩];have Y:Ext H3 (upd H3 B (.list [])):=Ext.fresh Ext.refl OI;have U:(upd H3 B (.list [])) m=none:=(dp _ _ nme).trans hm;generalize upd H3 B (.list [])=H4 at Y U;generalize hh0:(λj=>match j with|0=>h 0|1=>h 1|2=>h 2|3=>h 3|_=>0:Nat->Int)=h0;have e0:∀j,j<4->h0 j=h j:=λj hj=>by
   erw[c_ hh0,<-VD hj ?_ ?_ ?_ ?_]
   ·rfl
   ·rfl
   ·rfl
   ·rfl
  erw[dX (al (n:=21) (mo:=dD h0 B .none false []) (C3.ext Y) (N4.ext Y) U (dc rfl)),(C5 I k5 rm)];have f5:(upd H4 m (dD h0 B .none false [])) m=some (dD h0 B .none false []):=us;have M:=(bJ.ext Y).trans k5;clear k5;generalize upd H4 m (dD h0 B .none false [])=H5 at C5 I f5 M;generalize g3.set m 21=g5 at C5 I M rm;have ru:g5.R c=22:=(M.r _ (by erw[aj f];decide)).trans f;have fu:=M.h _ _ (by erw[aj f];decide) J;have kz:=kx.trans M;have sb:∀{S:Nat->Prop},(¬S 0)->∀n,S n->n≠0:=λz n D e=>z (e▸D);have P5:=P.keep (kz.sub (sb (dc rfl)));have N5:=N.keep (kz.sub (sb (dc rfl)));have m4:y%4<4:=k_
  obtain ⟨k,k3,hk⟩:∃k:Nat,k<=3/\([V.int 2,.int 1,.int 3,.int 0])[y%4]?=some (.int (k:Int)):=by
   generalize y%4=i at m4;refine VD m4 ?_ ?_ ?_ ?_
   ·exact⟨2,by decide,rfl⟩
   ·exact⟨1,by decide,rfl⟩
   ·exact⟨3,by decide,rfl⟩
   ·exact⟨0,by decide,rfl⟩
  erw[Zg,eP rfl,Zr rfl,Zr rfl,Za,Zai rfl,Zs rfl rfl,dI (y:=2) rfl];have br:∀{a b:Int} {G:Bool->Prop} {H:Hp},(∀u:Bool,G u)->jF .Eq (.int a) (.int b) H G:=λh=>cq (λ_=>h true) λ_=>h false;erw[br,(d),Za,Z8,<-Zc r3 ?_,ZW,Z5,Z7,iX rfl,Zah rfl rfl rfl rfl,Zs rfl rfl,dI (y:=4) rfl,Kr (dc rfl) ir (by rw[aL];exact hk),hY,qh P5.h (by trivial) ⟨ir,by exact bb.mpr (dJ [(av,zn 3)] (zs av,zn ((2^60))) rt k3)⟩ Ed,(O YA)];rewrite[L5];erw[c_ jy,dX (al (n:=23) (mo:=.list (aT ((ts.take k).map (·.p)))) C5 I YA (dc rfl)),(C6 F k6 Jx)];have f6:(upd H5 O (.list (aT ((ts.take k).map (·.p))))) O=some (.list (aT ((ts.take k).map (·.p)))):=us;generalize upd H5 O (.list (aT ((ts.take k).map (·.p))))=H6 at C6 F f6 k6;generalize g5.set O 23=g6 at C6 F k6 Jx;erw[Zr rfl,Za,Zq,Za,Zs rfl rfl,dS (y:=9) rfl (iM tX).big rfl,Zb,md R (iM (vY tX 9)) (lv D rfl),(cj aac),Zb,(W Fb),dX (al (n:=20) (mo:=.list [.ref m,.ref c,.bool d,.ref O,.none,.bytes cj]) C6 F Fb (dc rfl)),(C7 E T rg)];have f7:(upd H6 W (.list [.ref m,.ref c,.bool d,.ref O,.none,.bytes cj])) W=some (.list [.ref m,.ref c,.bool d,.ref O,.none,.bytes cj]):=us;generalize upd H6 W (.list [.ref m,.ref c,.bool d,.ref O,.none,.bytes cj])=H7 at C7 E f7 T;generalize g6.set W 20=g7 at C7 E T rg;have L:=k6.trans T;exact YD R (A:=⟨W,m,c,O,B,ts.take k,none⟩) rfl C7 E (P5.keep (L.sub (sb (dc rfl)))) (N5.keep (L.sub (sb (dc rfl)))) ⟨hi,zv,by erw[aj dO,<-aH (gT _ _) jl],(λs hs=>nomatch hs),by exact dK aac rfl⟩ (λz hz=>mr hz)
   f7 (L.h _ _ (by erw[aj rm];decide) f5) e0 (L.h _ _ (by erw[aj ru];decide) fu) (T.h _ _ (by erw[aj Jx];decide) f6) rg ((L.r _ (by erw[aj rm];decide)).trans rm) ((L.r _ (by erw[aj ru];decide)).trans ru) ((T.r _ (by erw[aj Jx];decide)).trans Jx) l0 lz lx r1 r2 r3 rfl rfl rfl rfl hy hh D q
 ·replace e:=e.symm;subst e;erw[aD (sT e1),(eI l7)];subst eI;have p3:3^done.length<=3^6:=d0 (dc rfl) (by exact zw5 l7 rfl);have q3:1<=3^done.length:=Nat.one_le_pow _ _ (dc rfl);have z3:(3:Nat)^6=729:=dc rfl;erw[Zq,Za,ZI rfl,Zs rfl rfl,<-⟨ir,by exact ax.mpr (dJ [(zs av,zn 7)] (av,zn 1000) rt l7),by decide,?_⟩];rw[aaU];erw[dS (y:=3^done.length) (d3.mpr q3) (iM tX).big (d3.mpr (aH p3 (dc rfl))),Zb,jc R (iM (vY tX _)) (lv D rfl),(v hv)];exact g1 _ _ trivial ⟨rfl,done++[.int (done.length:Int)],ws++[v],by erw[c_ e1];rewrite[aC];rfl,by erw[aj e2,aj aX];rfl,by erw[aj ah,aj ah,aj e3];rfl,λx hx=>by
   rcases cC.mp hx with h|h
   ·exact e4 x h
   ·erw[aj (aR.mp h)];exact hv⟩
end
def NI:List S:=.forR 4 none (.sub (.tup [(ek 3),(ek 1),(ek 2),(ek 4),(ek 5)]) (.bin .Mod dB (ek 5))) [.bq 5 (bD 743 [bA,(.bin .Add (ek 1) fB)]),.bq 6 (.lst [(bD 750 [fG]),(bD 750 [(.bin .FloorDiv fG (ek 22))]),(.bin .Mult (.bin .Mod (.bin .FloorDiv fG (ek 3)) (ek 2)) (ek 2)),(bD 764 [(.bin .FloorDiv fG (ek 5))])]),.expr (.bp dP 0 [(.lst [(.call (.cls 407 376) [(bw jS 0),(bw jS 1),(bw jS 2),(bw jS 3)]),jS])])]::Rj
def Mh:List S:=.bq 2 (bD 743 [bA,(ek 0)]):: .bq 3 (.lst [])::NI
def YB:List S:=.bq 1 (.comp (.bin .Mod (.loc 1000) (ek 999983)) .JO none):: .dm (.cmp .Eq (.call .len [bA]) (ek 0)) [.bq 1 (.lst [(ek 0)])] []::Mh
theorem Um:Ih=YB:=rfl
section
variable{G:Hp}
theorem VO(R:Rd af w K)(C:Cells H g)(cl:Claim H g)(N:wB H g (a0,l.map λx:Nat=>V.int (x:Int)))(P:H pl=some (.list []))(B:g.R pl=6)(l0:l≠[])(lz:l.length<=24)(lx:∀x∈l,x<1000000)(F:ρ 1=some (.ref a0))(E:ρ 2=some (.int (hd:Int)))(D:ρ 3=some (.ref pl))(hh:hd<2^30)(G:aB 11 n=true)(q:∀a,Q (.bool true) a):bO af w K aG n NI ρ H (dE Q) (cG X):=by
 have m5:hd%5<5:=k_
 obtain ⟨k,k1,k5,hk⟩:∃k:Nat,1<=k/\k<=5/\([V.int 3,.int 1,.int 2,.int 4,.int 5])[hd%5]?=some (.int (k:Int)):=by
  generalize hd%5=i at m5;refine nb5 m5 ?_ ?_ ?_ ?_ ?_
  ·exact⟨3,by decide,by decide,rfl⟩
  ·exact⟨1,by decide,by decide,rfl⟩
  ·exact⟨2,by decide,by decide,rfl⟩
  ·exact⟨4,by decide,by decide,rfl⟩
  ·exact⟨5,by decide,by decide,rfl⟩
 unfold NI;erw[oM,Z7,iX rfl,Zr rfl,Zah rfl rfl rfl rfl,Zv rfl,<-Zc E ?_,dI (y:=5) rfl,Kr (dc rfl) ir (by rw[aL];exact hk),hY,<-uS (k:=k) (by exact dK k5 rfl) (λj ρ a=>∃(done:List V)(c:Gh)(ts:List Tr),done++j=nk k/\Cells a c/\Claim a c/\wB a c (a0,l.map λx:Nat=>V.int (x:Int))/\a pl=some (.list (aT (ts.map λz:Tr=>z.p)))/\c.R pl=6/\(∀z∈ts,tR a c z)/\ts.length=done.length/\ρ 1=some (.ref a0)/\ρ 2=some (.int (hd:Int))/\ρ 3=some (.ref pl)) ?_ (λρ T=>(Im · λdone g2 ts e1 C cl N P B tr u F E D=>?_)) λv j ρ a ih=>(Im · λdone c ts e1 C cl N P B tr u F E D=>?_)]
 ·exact⟨[],g,[],rfl,C,cl,N,P,B,(λ_ h=>nomatch h),rfl,F,E,D⟩
 ·have:done.length=k:=by
   erw[c_ (a_ done),aj e1];unfold nk;simp
  exact aa6 R C cl ⟨P,λe=>by rw[e] at u;simp at u;exact Gp [(av,zn 0),(zn 1,aW),(aW,av)] rt (aa (ao u)) k1 (aa (ao this)),by exact gF [(av,aW),(aW,bT),(bT,zn 5)] (av,zn 5) rt (aa u) (aa this) k5,tr,B⟩ N l0 lz lx F E D hh G q
 ·erw[aD (sT e1),(eI S)];subst eI;have EC:(aT (ts.map λz:Tr=>z.p)).length<=100000:=by rw[bG,aq];exact gF [(zs av,aW),(aW,zn 5),(bT,av)] (bT,zn 100000) rt S k5 (aa u)
  erw[Zg,Zq,<-Zr F ?_,Za,Zs rfl rfl,Zw,Zb,aj (show(1:Int)+(done.length:Int)=((1+done.length:Nat):Int) by exact Me),tu R N.h l0 (by exact dK lz rfl) lx (fe [(zs av,aW),(aW,zn 5)] (zp (zn 1) av,zn 1000) rt S k5) (lv G rfl),(y hy)];have A:y<2^39:=b_ hy (dc rfl);erw[Zg,eP rfl,Za,Zz rfl,jc R (iM A) (lv G rfl),(f JY),Za,Zq,Za,Zs rfl rfl,dS (y:=22) rfl (iM A).big rfl,Zb,jc R (iM (vY A 22)) (lv G rfl),(d JP),Za,Zv rfl,Zv rfl,Zs rfl rfl,dS (y:=3) rfl (iM A).big rfl,dI (y:=2) rfl];have m2:y / 3%2<2:=k_;erw[<-⟨du (JS m2 rfl),du (dc rfl),?_⟩,Za,Zq,Za,Zs rfl rfl,dS (y:=5) rfl (iM A).big rfl,Zb,md R (iM (vY A 5)) (lv G rfl),(b hb),Zb,(r hr)];have gx:(⟨f,d,((y / 3%2:Nat):Int)*2,b⟩:En).Good:=⟨⟨du (JS JY rfl),du (JS JP rfl),du (JS (m:=4) (Nat.mul_lt_mul_of_pos_right m2 (dc rfl)) rfl),by exact dK hb rfl⟩,⟨⟨ir,by exact oE JY⟩,⟨ir,by exact oE JP⟩,⟨by exact VL,by exact Vo⟩⟩⟩;show bO af w K aG n _ _ (upd a r (.list (⟨f,d,((y / 3%2:Nat):Int)*2,b⟩:En).vs)) _ _;have s:(upd a r (.list (⟨f,d,((y / 3%2:Nat):Int)*2,b⟩:En).vs)) r=some (.list (⟨f,d,((y / 3%2:Nat):Int)*2,b⟩:En).vs):=us;have L:Ext a (upd a r (.list (⟨f,d,((y / 3%2:Nat):Int)*2,b⟩:En).vs)):=Ext.fresh Ext.refl hr;generalize upd a r (.list (⟨f,d,((y / 3%2:Nat):Int)*2,b⟩:En).vs)=H1 at L s;have h4:(⟨f,d,((y / 3%2:Nat):Int)*2,b⟩:En).vs.length<=100000:=dc rfl;have U2:=L _ _ P;erw[Zk,Zm,<-Zc D ?_,wD U2 rfl,Za,eP rfl,Za,ZQ,Za,Zf rfl rfl,aw (v:=.int f) s h4 rfl,Za,Zf rfl rfl,aw (v:=.int d) s h4 rfl,Za,Zf rfl rfl,aw s h4 rfl,Za,Zf rfl rfl,aw s h4 rfl,Zb,(e he),<-C_ R he (lv G rfl) ⟨rfl,?_⟩];generalize (⟨f,d,((y / 3%2:Nat):Int)*2,b⟩:En)=x at s gx h4;have f2:(upd H1 e x.o) e=some x.o:=us;have J:Ext H1 (upd H1 e x.o):=Ext.fresh Ext.refl he;generalize upd H1 e x.o=T at J f2;have Wy:=J _ _ U2;erw[ZF rfl,(p O)];have f3:(upd T p (.list [.ref e,.ref r])) p=some (.list [.ref e,.ref r]):=us;have I:Ext T (upd T p (.list [.ref e,.ref r])):=Ext.fresh Ext.refl O;generalize upd T p (.list [.ref e,.ref r])=H3 at I f3;have Ra:=I _ _ Wy;have W:=(L.trans J).trans I;have fz:Fz c ⟨p,e,r⟩:=⟨cl.fresh (aI (L.trans J) O),cl.fresh (aI L he),cl.fresh hr⟩;have pr:Pr H3 p e r x:=⟨f3,I _ _ f2,I _ _ (J _ _ s)⟩;have U:bJ (λn=>n≠0) a c H3 (c.twin ⟨p,e,r⟩ x):=.qN fz W (λh=>h rfl);have C3:=C.twin fz W pr gx;have N4:=cl.twin (t:=⟨p,e,r⟩) (x:=x) W pr;have t3:=zl (g:=c) (t':=⟨p,e,r⟩) (x:=x) pr;generalize c.twin ⟨p,e,r⟩ x=g3 at U C3 N4 t3;have Y:g3.R pl=6:=(U.r _ (by erw[aj B];decide)).trans B;have em:aT (ts.map λz:Tr=>z.p)++[.ref p]=aT ((ts++[(⟨p,e,r⟩:Tr)]).map λz:Tr=>z.p):=by unfold aT;refine' aj aX ?_;refine' aj aX ?_;rfl
  erw[Zb,qQ Ra (by assumption),Ze,aj em];have M:∀z,tR H3 g3 z->tR (upd H3 pl (.list (aT ((ts++[(⟨p,e,r⟩:Tr)]).map λz:Tr=>z.p)))) g3 z:=λz hz=>hz.off (by erw[aj Y];decide);exact⟨trivial,ih _ _ ⟨done++[.int (done.length:Int)],g3,ts++[⟨p,e,r⟩],by erw[c_ e1];rewrite[aC];rfl,C3.off (by erw[aj Y];decide),N4.upd,(N.keep (U.sub λn h=>by exact UK h rfl)).keep (.upd (by erw[aj Y];decide)),us,Y,λz hz=>by
   rcases cC.mp hz with h|h
   ·exact M z ((tr z h).keep U (dc rfl) (dc rfl))
   ·erw[aj (aR.mp h)];exact M _ t3,by refine' aj ah ?_;refine' aj ah ?_;refine' aj u ?_;rfl,F,E,D⟩⟩
end
section
variable{G:Hp}
theorem Nj:(Gd K).length<=24:=by
 unfold Gd;cases K.getLast? with
 |none=>exact hX _
 |some p=>
  show cF (match p.2.data with| .seq v _=>_|_=>_)<=24;generalize p.2.data=d
  induction d using Data.casesOn<;>first|exact hX _|(refine' aj (aq _) ?_;exact List.length_take_le _ _)
theorem QC(R:Rd af w K)(h:H a0=some (.list (l.map λx:Nat=>V.int (x:Int))))(l0:l≠[])(E:l.length<=24)(I:∀x∈l,x<1000000)(B:ρ 1=some (.ref a0))(O:aB 11 n=true)(q:∀U,Q (.bool true) U):bO af w K aG n Mh ρ H (dE Q) (cG X):=by
 let g0:Gh:=⟨λa=>if a=a0 then 14 else 0,λa=>a,λ_=>⟨0,0,0,[]⟩⟩
 have D:∀a,g0.R a=14\/g0.R a=0:=λa=>by
  show(if a=a0 then 14 else 0)=14\/(if a=a0 then 14 else 0)=0
  split
  ·exact .inl rfl
  ·exact .inr rfl
 have j:g0.R a0=14:=if_pos rfl;have C:Cells H g0:=⟨λe b=>by have:=D e;exact⟨b.elim (λd=>this.elim (λz=>(cH [(av,zn 1),(zn 14,av)] rt (aa d) (aa (ao z))).elim) (λz=>(cH [(zn 1,av),(av,zn 0)] rt (aa (ao d)) (aa z)).elim)) (λd=>this.elim (λm=>(cH [(av,zn 4),(zn 14,av)] rt (aa d) (aa (ao m))).elim) (λm=>(cH [(zn 4,av),(av,zn 0)] rt (aa (ao d)) (aa m)).elim)),⟨b.elim (λf=>this.elim (λo=>(cH [(av,zn 1),(zn 14,av)] rt (aa f) (aa (ao o))).elim) (λo=>(cH [(zn 1,av),(av,zn 0)] rt (aa (ao f)) (aa o)).elim)) (λf=>this.elim (λt=>(cH [(av,zn 4),(zn 14,av)] rt (aa f) (aa (ao t))).elim) (λt=>(cH [(zn 4,av),(av,zn 0)] rt (aa (ao f)) (aa t)).elim)),⟨b.elim (λA=>this.elim (λG=>aS ((cH [(av,zn 1),(zn 14,av)] rt (aa A) (aa (ao G))).elim) ((cH [(av,zn 1),(zn 14,av)] rt (aa A) (aa (ao G))).elim)) (λG=>aS ((cH [(zn 1,av),(av,zn 0)] rt (aa (ao A)) (aa G)).elim) ((cH [(zn 1,av),(av,zn 0)] rt (aa (ao A)) (aa G)).elim))) (λA=>this.elim (λi=>aS ((cH [(av,zn 4),(zn 14,av)] rt (aa A) (aa (ao i))).elim) ((cH [(av,zn 4),(zn 14,av)] rt (aa A) (aa (ao i))).elim)) (λi=>aS ((cH [(zn 4,av),(av,zn 0)] rt (aa (ao A)) (aa i)).elim) ((cH [(zn 4,av),(av,zn 0)] rt (aa (ao A)) (aa i)).elim))),⟨b.elim (λc=>this.elim (λs=>(cH [(av,zn 1),(zn 14,av)] rt (aa c) (aa (ao s))).elim) (λs=>(cH [(zn 1,av),(av,zn 0)] rt (aa (ao c)) (aa s)).elim)) (λc=>this.elim (λu=>(cH [(av,zn 4),(zn 14,av)] rt (aa c) (aa (ao u))).elim) (λu=>(cH [(zn 4,av),(av,zn 0)] rt (aa (ao c)) (aa u)).elim)),b.elim (λF=>this.elim (λv=>(cH [(av,zn 1),(zn 14,av)] rt (aa F) (aa (ao v))).elim) (λv=>(cH [(zn 1,av),(av,zn 0)] rt (aa (ao F)) (aa v)).elim)) (λF=>this.elim (λk=>(cH [(av,zn 4),(zn 14,av)] rt (aa F) (aa (ao k))).elim) (λk=>(cH [(zn 4,av),(av,zn 0)] rt (aa (ao F)) (aa k)).elim))⟩⟩⟩⟩,λp N=>by have:=D p;exact this.elim (λL=>(cH [(av,zn 3),(zn 14,av)] rt (aa N) (aa (ao L))).elim) (λL=>(cH [(zn 3,av),(av,zn 0)] rt (aa (ao N)) (aa L)).elim)⟩;have cl:Claim H g0:=⟨λa T M=>T (if_neg λe=>by rw[e,h] at M;injection M)⟩;generalize g0=g at j C cl;unfold Mh;erw[Zg,<-ZU B rfl ?_,tu R h l0 (dK E rfl) I (dc rfl) (lv O rfl),(y S),Zg,eP rfl,Zb,(pl Y),dX (al (n:=6) (mo:=.list []) C cl Y (dc rfl)),(C1 Dt J P)];have W:g.R a0≠0:=by refine' aj j ?_;decide
 exact VO R C1 Dt ⟨J.h _ _ W h,(J.r _ W).trans j⟩ us P l0 E I B rfl rfl S O q
theorem SW(R:Rd af w K)(a:aB 12 n=true)(q:∀y,Q (.bool true) y):aY af w K n 994 [.ref (MJ K)] H Q X:=by
 erw[R.law.to rfl a,(n a),aj Um];unfold YB;erw[Zg,ZJ,<-zq rfl ⟨rfl,λc A=>?_⟩];generalize hl:Gd K=l;have g:l.length<=24:=by
  erw[c_ hl,<-Nj]
 erw[aj (show l.map V.int=iv l from rfl)];have h1:(upd H c (.list (iv l))) c=some (.list (iv l)):=us;generalize upd H c (.list (iv l))=H1 at h1;have i:∀x:Int,((x.fmod 999983).toNat)=x.fmod 999983/\(x.fmod 999983).toNat<1000000:=λx=>by
  have e:=DA x (b:=999983) (dc rfl);have u:=Int.emod_nonneg x (b:=999983) (dc rfl);have t:=Int.emod_lt_of_pos x (b:=999983) (dc rfl);have h0:0<=x.fmod 999983:=by rw[e];exact u
  exact⟨gQ h0,(zx h0).mpr (by rw[e];exact Int.lt_trans t (dc rfl))⟩
 refine comp_map (λv=>match v with| .int x=>.int (x.fmod 999983)|v=>v) h1 (by unfold iv;rw[aq];exact dK g rfl) (λv m G p=>?_) λd hd=>?_
 ·erw[ay (cK.mp m),(x _ s)];subst s;erw[Zs rfl rfl,<-⟨by decide,p⟩]
 have r:(iv l).map (λv=>match v with| .int x=>.int (x.fmod 999983)|v=>v)=(l.map λx=>(x.fmod 999983).toNat).map λx:Nat=>V.int x:=by
  unfold iv;erw[aj eg,aj eg];exact dQ λx _=>by show V.int (x.fmod 999983)=V.int ((x.fmod 999983).toNat:Int);refine' aj ((i x).1) ?_;rfl
 erw[aj r];have j:∀x∈l.map λx:Int=>(x.fmod 999983).toNat,x<1000000:=λx f=>by
  erw[ay (cK.mp f),(z _ k)];subst k;exact(i z).2
 have h:(l.map λx:Int=>(x.fmod 999983).toNat).length<=24:=by rw[aq];exact g
 generalize (l.map λx:Int=>(x.fmod 999983).toNat)=L at j h;have h2:(upd H1 d (.list (L.map λx:Nat=>V.int (x:Int)))) d=some (.list (L.map λx:Nat=>V.int (x:Int))):=us;generalize upd H1 d (.list (L.map λx:Nat=>V.int x))=H2 at h2;erw[Zh,Zy rfl,ZG rfl,dV h2 (by rw[aq];exact dK h rfl)];rw[aq];refine cq (λe0=>?_) (λe0=>?_)
 ·erw[Zp,Zg,eP rfl,ZF rfl,(B o),Ze,Zd,<-QC R (l:=[0]) us (λe=>nomatch e) (dc rfl) (λx f=>by erw[aj (aR.mp f)];decide) rfl a q]
 ·erw[Zi,Ze,Zd,<-QC R h2 (λe=>e0 (aj e rfl)) h j rfl a q]
end
end Mine
section
open PySem PySem.W PyProof.Rows PySem.Challenge
namespace Mine.HD
section
noncomputable abbrev pw:=PySem.Challenge.pw_xm0855_01
def JB:List jz:=behindTheImports pw
def st(i:Nat):jz:=JB.getD i (.Pass default)
def sm(i j:Nat):jz:=match st i with
 | .ClassDef _ _ _ b .. =>b.getD j (.Pass default)
 |_=>.Pass default
noncomputable def nm:jz->Str
 | .FunctionDef n .. =>n
 |_=>Hg
noncomputable def fd(s:jz)(q:Str)(g:Addr)(d m c:Value):FuncData:=match s with
 | .FunctionDef n a b _ _ _ sc _ _ _=>⟨n,q,a,.stmts b,sc,g,[],d,.none,.none,m,none,c,.none,0⟩
 |_=>default
noncomputable abbrev R(a:Nat):Value:=.ref a
noncomputable abbrev S(x:Str)(t:Nat):Value:=.str x t
noncomputable abbrev I(n:Int):Value:=.int n 0
noncomputable abbrev E(P:bg)(x:Str)(t:Nat)(v:Value):dw:=⟨Bv P x,.str x t,v⟩
noncomputable abbrev T(l:List Value):Obj:=⟨.type "tuple",none,.seq ⟨l⟩ 0,#[]⟩
noncomputable abbrev Fd(l:List Value):Obj:=⟨.none,none,.fields ⟨l⟩,#[]⟩
noncomputable abbrev Fl(c:Value)(l:List Value):Obj:=⟨c,none,.fields ⟨l⟩,#[]⟩
abbrev Cd(l:List Value):Obj:=Fl (.type "code") l
noncomputable abbrev Fr(l:List (Option Value)):Obj:=⟨.type "frame",none,.plain,⟨l⟩⟩
noncomputable abbrev Dc(l:List dw)(n:Nat):Obj:=⟨.type "dict",none,.dict ⟨l⟩ n,#[]⟩
noncomputable def toks:Nat->List Str->List Value
 |_,[]=>[]
 |t,x::r=>.str x t::toks (t+1) r
noncomputable def locs:List (Str×dz)->List Str
 |[]=>[]
 |(x,.local)::r=>x::locs r
 |_::r=>locs r
def cdO(n t:Nat)(s:jz)(q:Str)(a5:Nat)(a3 a4:Value)(k:Nat):Obj:=match s with
 | .FunctionDef x a _ _ _ _ _ _ _ p=>Cd [S x t,S q (t+1),S "/claim/cut.py" (t+2),I p.line,I a.args.length,I 0,I 0,I 3,R n,.bool true,I 181,R (n+1),.none,a3,a4,R a5,I (t+3+k:Nat),I p.line,S "/claim/cut.py" (t+4+k)]
 |_=>default
def vrs:jz->List Str
 | .FunctionDef _ _ _ _ _ _ sc _ _ _=>locs sc.names
 |_=>[]
def F7(n t:Nat)(s:jz)(q:Str)(d m:Value):List (Nat×Obj):=
 [(n,T []),(n+1,Fd []),(n+2,T (toks (t+3) (vrs s))),(n+3,T []),(n+4,⟨.none,none,.func (fd s q 0 .none .none .none),#[]⟩),
  (n+5,cdO n t s q (n+4) (R (n+2)) (R (n+3)) (vrs s).length),(n+6,⟨.type "function",none,.func (fd s q 3 d m (R (n+5))),#[]⟩)]
def F5(n t:Nat)(s:jz)(q:Str)(d m:Value):List (Nat×Obj):=
 [(n,T []),(n+1,Fd []),(n+2,⟨.none,none,.func (fd s q 0 .none .none .none),#[]⟩),
  (n+3,cdO n t s q (n+2) .none .none 0),(n+4,⟨.type "function",none,.func (fd s q 3 d m (R (n+3))),#[]⟩)]
noncomputable def up:List (Nat×Obj)->BT->BT
 |[],t=>t
 |(a,o)::r,t=>up r (t.ins a o)
def y_(l:List Value)(o:Obj):Obj:=match o.data with
 | .fields ⟨v⟩=>Fd (v++l)
 |_=>o
def y9(m:Value)(l:List dw)(n:Nat)(o:Obj):Obj:=match o.data with
 | .dict ⟨e::r⟩ _=>Dc (⟨e.hash,e.key,m⟩::r++l) n
 |_=>o
abbrev m0:Value:=(S "__main__" 164)
abbrev m1:Value:=(S "raftkeep.errors" 194)
abbrev m2:Value:=(S "raftkeep.octets" 344)
abbrev m3:Value:=(S "raftkeep.messages" 613)
abbrev m4:Value:=(S "raftkeep.commands" 978)
abbrev m5:Value:=(S "raftkeep.raftlog" 1067)
abbrev m6:Value:=(S "law_xm0855_01" 1176)
def pz:Obj:=Fl (.type "builtin_function_or_method") [.builtin "type.__prepare__",.type "type"]
def Oi(c:Nat):Obj:=Fl (.type "builtin_function_or_method") [.builtin "object.__init_subclass__",R c]
def su(c:Nat):Obj:=Fl (.type "super") [R c,R c,R c]
def ft(k:Int)(l:List (Int×Nat)):List Value:=l.foldr (λx r=>I x.1::I k::R x.2::r) []
def hr(P:bg)(u:Nat)(M:Value)(l:Int)(e:List dw):List dw:=[E P "__module__" (u+7) M,E P "__firstlineno__" (u+11) (.int l (u+10))]++e
def xc(c:Nat)(x:Str)(u:Nat)(p q b:List Value):Obj:=⟨.type "type",none,.cls ⟨x,p,R c::(q++[.type "Exception",.type "BaseException",.type "object"]),c-1,x,true,[],b,false,none,false⟩,⟨[some (R (c-9)),none,some (S x u),some (S x (u+8)),some (.builtin "Exception.__new__"),some (.bool true)]⟩⟩
def K1(P:bg)(n u:Nat)(M:Value)(x:Str)(l:Int)(b:List Value)(e:List dw)(f:List Value)(k:Nat):List (Nat×Obj):=
 [(n,T b),(n+1,pz),(n+2,Dc (E P "__module__" (u+7) M::E P "__qualname__" (u+9) (S x (u+8))::E P "__firstlineno__" (u+11) (.int l (u+10))::e) k),(n+3,T []),(n+4,Fd f),
  (n+5,Cd [S x (u+2),S x (u+3),S "/claim/cut.py" (u+4),I l,I 0,I 0,I 0,I 0,R (n+3),.bool false,I 181,R (n+4),.none,.none,.none,.none,I (u+5:Nat),I l,S "/claim/cut.py" (u+6)]),(n+6,Fr [some (R (n+5)),some (R 3),some (R (n+2)),none,some M,none,some (R 0)])]
def gs(x:Str)(t c:Nat)(a b:Value):Obj:=Fl (.type "getset_descriptor") [S x t,R c,a,b]
def K2(P:bg)(n u:Nat)(M:Value)(x:Str)(l:Int)(s:List Value)(e:List dw)(d k:Nat):List (Nat×Obj):=
 [(n,T s),(n+1,Dc (hr P u M l e++[E P "__dict__" d (R (n+3)),E P "__weakref__" (d+2) (R (n+4)),E P "__doc__" (d+3) .none]) k),(n+2,⟨.type "type",none,.cls ⟨x,[.type "object"],[R (n+2),.type "object"],n+1,x,true,[],[],false,none,false⟩,⟨[none,none,some (S x u),some (S x (u+8)),some (.builtin "object.__new__"),some (.bool true)]⟩⟩),
  (n+3,gs "__dict__" (d-1) (n+2) (.builtin "function.__dict__") (.builtin "function.__dict__#set")),(n+4,gs "__weakref__" (d+1) (n+2) (.builtin "ExceptionGroup.__weakref__") .none),(n+5,su (n+2)),(n+6,Oi (n+2))]
def G7(n t k:Nat)(m:Value):List (Nat×Obj):=F7 n t (st k) (nm (st k)) .none m
def G5(n t k:Nat)(m:Value):List (Nat×Obj):=F5 n t (st k) (nm (st k)) .none m
def M7(n t a b:Nat)(x:Str)(m:Value):List (Nat×Obj):=F7 n t (sm a b) x .none m
def M5(n t a b:Nat)(x:Str)(m:Value):List (Nat×Obj):=F5 n t (sm a b) x .none m
def t0(P:bg):BT:=up [(0,boot_o_0 P),(1,boot_o_1 P),(2,boot_o_2 P),(3,boot_o_3 P),(4,boot_o_4 P),(5,boot_o_5 P),(6,boot_o_6 P),(7,boot_o_7 P),(8,boot_o_8 P),(9,boot_o_9 P),(10,boot_o_10 P),(11,T []),(12,Fd []),(13,Cd [(S "<module>" 182),(S "<module>" 183),(S "/claim/cut.py" 184),(I 1),(I 0),(I 0),(I 0),(I 0),(R 11),(.bool false),(I 181),(R 12),.none,.none,.none,.none,(I 185),(I 1),(S "/claim/cut.py" 186)]),(14,Fr [some (R 13),some (R 3),some (R 3),none,some (S "__main__" 164),none,some (R 0)])] .nil
def e0(P:bg):List dw:=[E P "__static_attributes__" 208 (R 29)]
def l0(P:bg):List (Nat×Obj):=G7 15 187 0 m0++
 K1 P 22 196 m1 "KeepError" 5 [(.type "Exception")] (e0 P) [] 4++
 [(29,T []),(30,Dc (hr P 196 m1 5 (e0 P)++[E P "__weakref__" 210 (R 32),E P "__doc__" 211 .none]) 3),(31,xc 31 "KeepError" 196 [(.type "Exception")] [] []),(32,Fl (.type "getset_descriptor") [(S "__weakref__" 209),(R 31),(.builtin "ExceptionGroup.__weakref__"),.none]),(33,su 31),(34,Oi 31)]
def t1(P:bg):BT:=((((up (l0 P) (t0 P)).set 2 (λ_=>⟨.none,none,.dict (List.toArray [E P "type.__subclasses__.Exception.0" 212 (I 31),E P "type.__subclasses__.Exception.n" 213 (I 1)]) 2,#[]⟩)).set 3 (y9 m1 [E P "_wall" 193 (R 21),E P "KeepError" 215 (R 31)] 11)).set 12 (y_ (ft 0 [(1,20),(5,27)])))
def e1(P:bg):List dw:=[E P "__static_attributes__" 228 (R 42)]
def l1(P:bg):List (Nat×Obj):=K1 P 35 216 m1 "StoreError" 7 [(R 31)] (e1 P) [] 4++
 [(42,T []),(43,Dc (hr P 216 m1 7 (e1 P)++[E P "__doc__" 229 .none]) 2),(44,xc 44 "StoreError" 216 [(R 31)] [(R 31)] []),(45,su 44),(46,Oi 44)]
def t2(P:bg):BT:=((((up (l1 P) (t1 P)).set 3 (y9 m1 [E P "StoreError" 231 (R 44)] 12)).set 12 (y_ (ft 0 [(7,40)]))).set 31 (λ_=>xc 31 "KeepError" 196 [(.type "Exception")] [] [(R 44)]))
def e2(P:bg):List dw:=[E P "__static_attributes__" 244 (R 54)]
def l2(P:bg):List (Nat×Obj):=K1 P 47 232 m1 "Corrupt" 9 [(R 44)] (e2 P) [] 4++
 [(54,T []),(55,Dc (hr P 232 m1 9 (e2 P)++[E P "__doc__" 245 .none]) 2),(56,xc 56 "Corrupt" 232 [(R 44)] [(R 44),(R 31)] []),(57,su 56),(58,Oi 56)]
def t3(P:bg):BT:=((((up (l2 P) (t2 P)).set 3 (y9 m1 [E P "Corrupt" 247 (R 56)] 13)).set 12 (y_ (ft 0 [(9,52)]))).set 44 (λ_=>xc 44 "StoreError" 216 [(R 31)] [(R 31)] [(R 56)]))
def e3(P:bg):List dw:=[E P "__static_attributes__" 260 (R 66)]
def l3(P:bg):List (Nat×Obj):=K1 P 59 248 m1 "ShortOctets" 11 [(R 56)] (e3 P) [] 4++
 [(66,T []),(67,Dc (hr P 248 m1 11 (e3 P)++[E P "__doc__" 261 .none]) 2),(68,xc 68 "ShortOctets" 248 [(R 56)] [(R 56),(R 44),(R 31)] []),(69,su 68),(70,Oi 68)]
def t4(P:bg):BT:=((((up (l3 P) (t3 P)).set 3 (y9 m1 [E P "ShortOctets" 263 (R 68)] 14)).set 12 (y_ (ft 0 [(11,64)]))).set 56 (λ_=>xc 56 "Corrupt" 232 [(R 44)] [(R 44),(R 31)] [(R 68)]))
def e4(P:bg):List dw:=[E P "__static_attributes__" 276 (R 78)]
def l4(P:bg):List (Nat×Obj):=K1 P 71 264 m1 "BadOption" 13 [(R 44)] (e4 P) [] 4++
 [(78,T []),(79,Dc (hr P 264 m1 13 (e4 P)++[E P "__doc__" 277 .none]) 2),(80,xc 80 "BadOption" 264 [(R 44)] [(R 44),(R 31)] []),(81,su 80),(82,Oi 80)]
def t5(P:bg):BT:=((((up (l4 P) (t4 P)).set 3 (y9 m1 [E P "BadOption" 279 (R 80)] 15)).set 12 (y_ (ft 0 [(13,76)]))).set 44 (λ_=>xc 44 "StoreError" 216 [(R 31)] [(R 31)] [(R 56),(R 80)]))
def e5(P:bg):List dw:=[E P "__static_attributes__" 292 (R 90)]
def l5(P:bg):List (Nat×Obj):=K1 P 83 280 m1 "RaftError" 15 [(R 31)] (e5 P) [] 4++
 [(90,T []),(91,Dc (hr P 280 m1 15 (e5 P)++[E P "__doc__" 293 .none]) 2),(92,xc 92 "RaftError" 280 [(R 31)] [(R 31)] []),(93,su 92),(94,Oi 92)]
def t6(P:bg):BT:=((((up (l5 P) (t5 P)).set 3 (y9 m1 [E P "RaftError" 295 (R 92)] 16)).set 12 (y_ (ft 0 [(15,88)]))).set 31 (λ_=>xc 31 "KeepError" 196 [(.type "Exception")] [] [(R 44),(R 92)]))
def e6(P:bg):List dw:=[E P "__static_attributes__" 308 (R 102)]
def l6(P:bg):List (Nat×Obj):=K1 P 95 296 m1 "LogPanic" 17 [(R 92)] (e6 P) [] 4++
 [(102,T []),(103,Dc (hr P 296 m1 17 (e6 P)++[E P "__doc__" 309 .none]) 2),(104,xc 104 "LogPanic" 296 [(R 92)] [(R 92),(R 31)] []),(105,su 104),(106,Oi 104)]
def t7(P:bg):BT:=((((up (l6 P) (t6 P)).set 3 (y9 m1 [E P "LogPanic" 311 (R 104)] 17)).set 12 (y_ (ft 0 [(17,100)]))).set 92 (λ_=>xc 92 "RaftError" 280 [(R 31)] [(R 31)] [(R 104)]))
def e7(P:bg):List dw:=[E P "__static_attributes__" 324 (R 114)]
def l7(P:bg):List (Nat×Obj):=K1 P 107 312 m1 "ServeError" 19 [(R 31)] (e7 P) [] 4++
 [(114,T []),(115,Dc (hr P 312 m1 19 (e7 P)++[E P "__doc__" 325 .none]) 2),(116,xc 116 "ServeError" 312 [(R 31)] [(R 31)] []),(117,su 116),(118,Oi 116)]
def t8(P:bg):BT:=((((up (l7 P) (t7 P)).set 3 (y9 m1 [E P "ServeError" 327 (R 116)] 18)).set 12 (y_ (ft 0 [(19,112)]))).set 31 (λ_=>xc 31 "KeepError" 196 [(.type "Exception")] [] [(R 44),(R 92),(R 116)]))
def e8(P:bg):List dw:=[E P "__static_attributes__" 340 (R 126)]
def l8(P:bg):List (Nat×Obj):=K1 P 119 328 m1 "BadCommand" 21 [(R 116)] (e8 P) [] 4++
 [(126,T []),(127,Dc (hr P 328 m1 21 (e8 P)++[E P "__doc__" 341 .none]) 2),(128,xc 128 "BadCommand" 328 [(R 116)] [(R 116),(R 31)] []),(129,su 128),(130,Oi 128)]++
 G7 131 350 14 m2++
 G7 138 359 15 m2++
 G7 145 373 16 m2++
 G7 152 380 17 m2
def t9(P:bg):BT:=((((up (l8 P) (t8 P)).set 3 (y9 m2 [E P "BadCommand" 343 (R 128),E P "MAX_32" 347 (.int 4294967295 346),E P "MAX_64" 349 (.int 18446744073709551615 348),E P "write_groups" 358 (R 137),E P "read_groups" 372 (R 144),E P "put_varint" 379 (R 151),E P "read_varint" 387 (R 158)] 25)).set 12 (y_ (ft 0 [(21,124),(26,136),(35,143),(52,150),(56,157)]))).set 116 (λ_=>xc 116 "ServeError" 312 [(R 31)] [(R 31)] [(R 128)]))
def l9(P:bg):List (Nat×Obj):=G7 159 388 18 m2++
 G7 166 395 19 m2++
 G7 173 403 20 m2++
 G7 180 411 21 m2
def t10(P:bg):BT:=(((up (l9 P) (t9 P)).set 3 (y9 m2 [E P "put_varint32" 394 (R 165),E P "read_varint32" 402 (R 172),E P "varint_length" 410 (R 179),E P "read_lengthed" 419 (R 186)] 29)).set 12 (y_ (ft 0 [(60,164),(64,171),(68,178),(76,185)])))
def Jg(P:bg):List dw:=[E P "__init__" 441 (R 201),E P "left" 448 (R 208),E P "varint" 457 (R 215),E P "fixed32" 464 (R 222),E P "fixed64" 471 (R 229),E P "lengthed" 480 (R 236),E P "octet" 488 (R 243),E P "flag" 496 (R 250),E P "take" 504 (R 257),E P "done" 511 (R 264),E P "__static_attributes__" 514 (R 265)]
def Vf(P:bg):List (Nat×Obj):=K1 P 187 420 m2 "Cursor" 81 [] (Jg P) (ft 4 [(83,200),(89,207),(92,214),(101,221),(104,228),(107,235),(112,242),(119,249),(128,256),(131,263)]) 14++
 [(194,T [(.int 0 432)])]++
 F7 195 433 (sm 22 0) "Cursor.__init__" (R 194) m2++
 M7 202 442 22 1 "Cursor.left" m2++
 M7 209 449 22 2 "Cursor.varint" m2++
 M7 216 458 22 3 "Cursor.fixed32" m2++
 M7 223 465 22 4 "Cursor.fixed64" m2++
 M7 230 472 22 5 "Cursor.lengthed" m2++
 M7 237 481 22 6 "Cursor.octet" m2++
 M7 244 489 22 7 "Cursor.flag" m2++
 M7 251 497 22 8 "Cursor.take" m2++
 M7 258 505 22 9 "Cursor.done" m2++
 K2 P 265 420 m2 "Cursor" 81 (toks 512 ["at","data"]) (Jg P) 516 4
def t11(P:bg):BT:=(((up (Vf P) (t10 P)).set 3 (y9 m2 [E P "Cursor" 521 (R 267)] 30)).set 12 (y_ (ft 0 [(81,192)])))
def QW(P:bg):List dw:=[E P "__init__" 540 (R 285),E P "varint" 548 (R 292),E P "fixed32" 556 (R 299),E P "fixed64" 564 (R 306),E P "lengthed" 572 (R 313),E P "octet" 580 (R 320),E P "flag" 588 (R 327),E P "raw" 596 (R 334),E P "done" 603 (R 341),E P "__static_attributes__" 605 (R 342)]
def YX(P:bg):List (Nat×Obj):=K1 P 272 522 m2 "Sink" 134 [] (QW P) (ft 4 [(136,284),(139,291),(145,298),(148,305),(151,312),(155,319),(160,326),(166,333),(169,340)]) 13++
 M7 279 534 23 0 "Sink.__init__" m2++
 M7 286 541 23 1 "Sink.varint" m2++
 M7 293 549 23 2 "Sink.fixed32" m2++
 M7 300 557 23 3 "Sink.fixed64" m2++
 M7 307 565 23 4 "Sink.lengthed" m2++
 M7 314 573 23 5 "Sink.octet" m2++
 M7 321 581 23 6 "Sink.flag" m2++
 M7 328 589 23 7 "Sink.raw" m2++
 M7 335 597 23 8 "Sink.done" m2++
 K2 P 342 522 m2 "Sink" 134 (toks 604 ["parts"]) (QW P) 607 4
def t12(P:bg):BT:=(((up (YX P) (t11 P)).set 3 (y9 m2 [E P "Sink" 612 (R 344)] 31)).set 12 (y_ (ft 0 [(134,277)])))
def We(P:bg):List (Nat×Obj):=G7 349 621 28 m3++
 G7 356 630 29 m3
def t13(P:bg):BT:=(((up (We P) (t12 P)).set 3 (y9 m3 [E P "MSG_PIECE" 616 (.int 20 615),E P "ENTRY_NORMAL" 618 (.int 0 617),E P "ENTRY_CONF" 620 (.int 2 619),E P "rising" 629 (R 355),E P "take_count" 637 (R 362)] 36)).set 12 (y_ (ft 0 [(175,354),(181,361)])))
def P8(P:bg):List dw:=[E P "__init__" 660 (R 376),E P "row" 667 (R 383),E P "copy" 674 (R 390),E P "payload" 681 (R 397),E P "size" 690 (R 404),E P "__static_attributes__" 695 (R 405)]
def l13(P:bg):List (Nat×Obj):=K1 P 363 638 m3 "Entry" 186 [] (P8 P) (ft 4 [(188,375),(194,382),(197,389),(200,396),(203,403)]) 9++
 M7 370 650 30 0 "Entry.__init__" m3++
 M7 377 661 30 1 "Entry.row" m3++
 M7 384 668 30 2 "Entry.copy" m3++
 M7 391 675 30 3 "Entry.payload" m3++
 M7 398 682 30 4 "Entry.size" m3++
 K2 P 405 638 m3 "Entry" 186 (toks 691 ["data","index","kind","term"]) (P8 P) 697 4++
 G7 412 703 31 m3
def t14(P:bg):BT:=(((up (l13 P) (t13 P)).set 3 (y9 m3 [E P "Entry" 702 (R 407),E P "encode_entry" 710 (R 418)] 38)).set 12 (y_ (ft 0 [(186,368),(207,417)])))
def e14(P:bg):List dw:=[E P "__init__" 757 (R 446),E P "row" 764 (R 453),E P "copy" 771 (R 460),E P "__static_attributes__" 777 (R 461)]
def l14(P:bg):List (Nat×Obj):=G7 419 711 32 m3++
 G7 426 723 33 m3++
 K1 P 433 734 m3 "ConfState" 233 [] (e14 P) (ft 4 [(235,445),(242,452),(245,459)]) 7++
 M7 440 746 34 0 "ConfState.__init__" m3++
 M7 447 758 34 1 "ConfState.row" m3++
 M7 454 765 34 2 "ConfState.copy" m3++
 K2 P 461 734 m3 "ConfState" 233 (toks 772 ["auto_leave","learners","learners_next","outgoing","voters"]) (e14 P) 779 4++
 G7 468 785 35 m3
def t15(P:bg):BT:=(((up (l14 P) (t14 P)).set 3 (y9 m3 [E P "decode_entry" 722 (R 425),E P "limit_size" 733 (R 432),E P "ConfState" 784 (R 463),E P "put_ids" 793 (R 474)] 42)).set 12 (y_ (ft 0 [(214,424),(224,431),(233,438),(247,473)])))
def l15(P:bg):List (Nat×Obj):=G7 475 794 36 m3++
 G7 482 804 37 m3++
 G7 489 812 38 m3
def t16(P:bg):BT:=(((up (l15 P) (t15 P)).set 3 (y9 m3 [E P "take_ids" 803 (R 481),E P "encode_conf" 811 (R 488),E P "decode_conf" 824 (R 495)] 45)).set 12 (y_ (ft 0 [(251,480),(259,487),(267,494)])))
def e16(P:bg):List dw:=[E P "__init__" 847 (R 509),E P "row" 854 (R 516),E P "empty" 861 (R 523),E P "copy" 868 (R 530),E P "__static_attributes__" 873 (R 531)]
def l16(P:bg):List (Nat×Obj):=K1 P 496 825 m3 "Snapshot" 276 [] (e16 P) (ft 4 [(278,508),(284,515),(287,522),(290,529)]) 8++
 M7 503 837 39 0 "Snapshot.__init__" m3++
 M7 510 848 39 1 "Snapshot.row" m3++
 M7 517 855 39 2 "Snapshot.empty" m3++
 M7 524 862 39 3 "Snapshot.copy" m3++
 K2 P 531 825 m3 "Snapshot" 276 (toks 869 ["conf","data","index","term"]) (e16 P) 875 4++
 G7 538 881 40 m3++
 G7 545 889 41 m3
def t17(P:bg):BT:=(((up (l16 P) (t16 P)).set 3 (y9 m3 [E P "Snapshot" 880 (R 533),E P "encode_snapshot" 888 (R 544),E P "decode_snapshot" 900 (R 551)] 48)).set 12 (y_ (ft 0 [(276,501),(292,543),(299,550)])))
def e17(P:bg):List dw:=[E P "__init__" 923 (R 565),E P "row" 929 (R 570),E P "copy" 935 (R 575),E P "__static_attributes__" 948 (R 576)]
def l17(P:bg):List (Nat×Obj):=K1 P 552 901 m3 "Message" 307 [] (e17 P) (ft 4 [(309,564),(323,569),(330,574)]) 7++
 M7 559 913 42 0 "Message.__init__" m3++
 M5 566 924 42 1 "Message.row" m3++
 M5 571 930 42 2 "Message.copy" m3++
 K2 P 576 901 m3 "Message" 307 (toks 936 ["commit","context","entries","frm","index","kind","log_term","reject","reject_hint","snapshot","term","to"]) (e17 P) 950 4++
 G7 583 956 43 m3++
 G7 590 965 44 m3
def t18(P:bg):BT:=(((up (l17 P) (t17 P)).set 3 (y9 m4 [E P "Message" 955 (R 578),E P "encode_message" 964 (R 589),E P "decode_message" 977 (R 596),E P "CMD_NONE" 981 (.int 0 980),E P "CMD_CLOSE" 983 (.int 6 982)] 53)).set 12 (y_ (ft 0 [(307,557),(342,588),(361,595)])))
def e18(P:bg):List dw:=[E P "__init__" 1008 (R 610),E P "row" 1015 (R 617),E P "encode" 1023 (R 624),E P "__static_attributes__" 1030 (R 625)]
def l18(P:bg):List (Nat×Obj):=K1 P 597 984 m4 "Command" 384 [] (e18 P) (ft 4 [(386,609),(394,616),(397,623)]) 7++
 M7 604 996 48 0 "Command.__init__" m4++
 M7 611 1009 48 1 "Command.row" m4++
 M7 618 1016 48 2 "Command.encode" m4++
 K2 P 625 984 m4 "Command" 384 (toks 1024 ["client","expect","key","kind","number","value"]) (e18 P) 1032 4++
 G7 632 1038 49 m4++
 G7 639 1046 50 m4++
 G7 646 1053 51 m4
def t19(P:bg):BT:=(((up (l18 P) (t18 P)).set 3 (y9 m5 [E P "Command" 1037 (R 627),E P "put_maybe" 1045 (R 638),E P "take_maybe" 1052 (R 645),E P "decode_command" 1066 (R 652)] 57)).set 12 (y_ (ft 0 [(384,602),(411,637),(415,644),(419,651)])))
def e19(P:bg):List dw:=[E P "__init__" 1088 (R 666),E P "maybe_first" 1095 (R 673),E P "maybe_last" 1102 (R 680),E P "maybe_term" 1110 (R 687),E P "stable_to" 1120 (R 694),E P "stable_snap_to" 1128 (R 701),E P "restore" 1136 (R 708),E P "truncate_and_append" 1145 (R 715),E P "part" 1154 (R 722),E P "row" 1164 (R 729),E P "__static_attributes__" 1168 (R 730)]
def l19(P:bg):List (Nat×Obj):=K1 P 653 1069 m5 "Unstable" 435 [] (e19 P) (ft 4 [(437,665),(442,672),(445,679),(448,686),(457,693),(466,700),(469,707),(472,714),(486,721),(493,728)]) 14++
 M7 660 1081 53 0 "Unstable.__init__" m5++
 M7 667 1089 53 1 "Unstable.maybe_first" m5++
 M7 674 1096 53 2 "Unstable.maybe_last" m5++
 M7 681 1103 53 3 "Unstable.maybe_term" m5++
 M7 688 1111 53 4 "Unstable.stable_to" m5++
 M7 695 1121 53 5 "Unstable.stable_snap_to" m5++
 M7 702 1129 53 6 "Unstable.restore" m5++
 M7 709 1137 53 7 "Unstable.truncate_and_append" m5++
 M7 716 1146 53 8 "Unstable.part" m5++
 M7 723 1155 53 9 "Unstable.row" m5++
 K2 P 730 1069 m5 "Unstable" 435 (toks 1165 ["entries","offset","snapshot"]) (e19 P) 1170 4
def t20(P:bg):BT:=(((up (l19 P) (t19 P)).set 3 (y9 m5 [E P "Unstable" 1175 (R 732)] 58)).set 12 (y_ (ft 0 [(435,658)])))
def l20(P:bg):List (Nat×Obj):=G7 737 1178 55 m6++
 G7 744 1186 56 m6++
 G7 751 1193 57 m6++
 G7 758 1200 58 m6++
 G5 765 1207 59 m6++
 G7 770 1213 60 m6++
 G7 777 1220 61 m6++
 G7 784 1229 62 m6++
 G7 791 1238 63 m6++
 G7 798 1245 64 m6++
 G7 805 1254 65 m6++
 G7 812 1264 66 m6++
 G7 819 1271 67 m6
def t21(P:bg):BT:=(((up (l20 P) (t20 P)).set 3 (y9 m6 [E P "_law_draw" 1185 (R 743),E P "_law_wide" 1192 (R 750),E P "_law_beyond" 1199 (R 757),E P "_law_octs" 1206 (R 764),E P "_law_var" 1212 (R 769),E P "_law_text" 1219 (R 776),E P "_law_other" 1228 (R 783),E P "_law_other_octs" 1237 (R 790),E P "_law_entry" 1244 (R 797),E P "_law_put" 1253 (R 804),E P "_law_turn" 1263 (R 811),E P "_law_weighed" 1270 (R 818),E P "_law_read_entry" 1277 (R 825)] 71)).set 12 (y_ (ft 0 [(502,742),(504,749),(508,756),(512,763),(514,768),(519,775),(521,782),(526,789),(531,796),(533,803),(543,810),(551,817),(553,824)])))
def l21(P:bg):List (Nat×Obj):=G7 826 1278 68 m6++
 G5 833 1286 69 m6++
 G7 838 1292 70 m6++
 G5 845 1300 71 m6++
 G5 850 1306 72 m6++
 G5 855 1312 73 m6++
 G5 860 1318 74 m6++
 G7 865 1324 75 m6++
 G7 872 1331 76 m6++
 G7 879 1340 77 m6++
 G7 886 1349 78 m6++
 G7 893 1357 79 m6++
 G7 900 1366 80 m6
def t22(P:bg):BT:=(((up (l21 P) (t21 P)).set 3 (y9 m6 [E P "_law_told" 1285 (R 832),E P "_law_paged" 1291 (R 837),E P "_law_refuses" 1299 (R 844),E P "_law_shot" 1305 (R 849),E P "_law_message" 1311 (R 854),E P "_law_message_row" 1317 (R 859),E P "_law_readable" 1323 (R 864),E P "_law_read_message" 1330 (R 871),E P "_law_heard" 1339 (R 878),E P "_law_say" 1348 (R 885),E P "_law_shoot" 1356 (R 892),E P "_law_tell" 1365 (R 899),E P "_law_command" 1373 (R 906)] 84)).set 12 (y_ (ft 0 [(558,831),(565,836),(573,843),(586,848),(589,853),(598,858),(606,863),(608,870),(613,877),(621,884),(639,891),(642,898),(656,905)])))
def l22(P:bg):List (Nat×Obj):=G7 907 1374 81 m6++
 G7 914 1382 82 m6++
 G5 921 1389 83 m6++
 G7 926 1395 84 m6++
 G7 933 1407 85 m6++
 G7 940 1419 86 m6++
 G7 947 1430 87 m6++
 G7 954 1440 88 m6++
 G7 961 1451 89 m6++
 G5 968 1463 90 m6++
 G5 973 1469 91 m6++
 G5 978 1475 92 m6++
 G7 983 1481 93 m6
def t23(P:bg):BT:=(((up (l22 P) (t22 P)).set 3 (y9 m6 [E P "_law_asked" 1381 (R 913),E P "_law_command_refuses" 1388 (R 920),E P "_law_out_of_reach" 1394 (R 925),E P "_law_read_again" 1406 (R 932),E P "_law_copied" 1418 (R 939),E P "_law_reworded" 1429 (R 946),E P "_law_more_or_fewer" 1439 (R 953),E P "_law_shot_otherwise" 1450 (R 960),E P "_law_ordered_otherwise" 1462 (R 967),E P "_law_waits" 1468 (R 972),E P "_law_put_to_wait" 1474 (R 977),E P "_law_gone_on_with" 1480 (R 982),E P "_law_deed" 1493 (R 989)] 97)).set 12 (y_ (ft 0 [(661,912),(666,919),(672,924),(684,931),(695,938),(704,945),(723,952),(732,959),(754,966),(780,971),(787,976),(815,981),(840,988)])))
def l23(P:bg):List (Nat×Obj):=G5 990 1494 94 m6
def R7(P:bg):BT:=(((up (l23 P) (t23 P)).set 3 (y9 m6 [E P "law" 1499 (R 994)] 98)).set 12 (y_ (ft 0 [(858,993)])))
noncomputable def lf:Life:=⟨[],[],[],0,[],[],false,#[],[],0,false,false,false,0,[2000,10,10],false,0,true,[],[],0,false⟩
abbrev Sg(t:BT)(n k:Nat)(os:bL):SharedT:=⟨t,n,lf,#[],⟨0,0,0,0⟩,k,os⟩
def Gg:mq:={scope:=pw.main.scope,locals:=mainNs,globals:=mainNs,cells:=[],code:=R 13,frame:=some 14}
abbrev cE:Code:=.body JB Gg
noncomputable abbrev p0:Pos:=⟨0,0,0,0⟩
def kC(w:bY)(a k N:Nat)(s:SharedT)(p:Pos):=segRunT treeTable pw w 11 (some (R 6)) 1 N s (piecesOf ((JB.drop a).take k) Gg cE p [topFrame p0])
theorem eo(w:bY)(a k N:Nat)(s:SharedT)(p:Pos):kC w a k N s p=PySem.W.Fast.tw10110043849684766642 PySem.W.Fast.tw14364793385576792824 pw w 11 (some (R 6)) 1 N s
  ⟨Sem.wrap doneF deadEnd id id (PySem.W.Fast.tw12563942051412417395 ((JB.drop a).take k) Gg),cE,p,[topFrame p0]⟩:=by
 unfold kC piecesOf;rw[rG,iK,PySem.W.Fast.te12563942051412417395]
theorem h0(w:bY)(os:bL):kC w 0 3 235 (Sg (t0 w.params) 15 187 os) p0=some (.next,Sg (t1 w.params) 35 216 os,cE,⟨5,0,6,8⟩):=by rw[eo];kernel_rfl
theorem h1(w:bY)(os:bL):kC w 3 1 214 (Sg (t1 w.params) 35 216 os) ⟨5,0,6,8⟩=some (.next,Sg (t2 w.params) 47 232 os,cE,⟨7,0,8,8⟩):=by rw[eo];kernel_rfl
theorem h2(w:bY)(os:bL):kC w 4 1 228 (Sg (t2 w.params) 47 232 os) ⟨7,0,8,8⟩=some (.next,Sg (t3 w.params) 59 248 os,cE,⟨9,0,10,8⟩):=by rw[eo];kernel_rfl
theorem h3(w:bY)(os:bL):kC w 5 1 242 (Sg (t3 w.params) 59 248 os) ⟨9,0,10,8⟩=some (.next,Sg (t4 w.params) 71 264 os,cE,⟨11,0,12,8⟩):=by rw[eo];kernel_rfl
theorem h4(w:bY)(os:bL):kC w 6 1 228 (Sg (t4 w.params) 71 264 os) ⟨11,0,12,8⟩=some (.next,Sg (t5 w.params) 83 280 os,cE,⟨13,0,14,8⟩):=by rw[eo];kernel_rfl
theorem h5(w:bY)(os:bL):kC w 7 1 214 (Sg (t5 w.params) 83 280 os) ⟨13,0,14,8⟩=some (.next,Sg (t6 w.params) 95 296 os,cE,⟨15,0,16,8⟩):=by rw[eo];kernel_rfl
theorem h6(w:bY)(os:bL):kC w 8 1 228 (Sg (t6 w.params) 95 296 os) ⟨15,0,16,8⟩=some (.next,Sg (t7 w.params) 107 312 os,cE,⟨17,0,18,8⟩):=by rw[eo];kernel_rfl
theorem h7(w:bY)(os:bL):kC w 9 1 214 (Sg (t7 w.params) 107 312 os) ⟨17,0,18,8⟩=some (.next,Sg (t8 w.params) 119 328 os,cE,⟨19,0,20,8⟩):=by rw[eo];kernel_rfl
theorem h8(w:bY)(os:bL):kC w 10 8 381 (Sg (t8 w.params) 119 328 os) ⟨19,0,20,8⟩=some (.next,Sg (t9 w.params) 159 388 os,cE,⟨56,0,59,44⟩):=by rw[eo];kernel_rfl
theorem h9(w:bY)(os:bL):kC w 18 4 121 (Sg (t9 w.params) 159 388 os) ⟨56,0,59,44⟩=some (.next,Sg (t10 w.params) 187 420 os,cE,⟨76,0,80,51⟩):=by rw[eo];kernel_rfl
theorem Qb(w:bY)(os:bL):kC w 22 1 513 (Sg (t10 w.params) 187 420 os) ⟨76,0,80,51⟩=some (.next,Sg (t11 w.params) 272 522 os,cE,⟨81,0,133,64⟩):=by rw[eo];kernel_rfl
theorem h11(w:bY)(os:bL):kC w 23 1 477 (Sg (t11 w.params) 272 522 os) ⟨81,0,133,64⟩=some (.next,Sg (t12 w.params) 349 613 os,cE,⟨134,0,170,32⟩):=by rw[eo];kernel_rfl
theorem h12(w:bY)(os:bL):kC w 24 6 98 (Sg (t12 w.params) 349 613 os) ⟨134,0,170,32⟩=some (.next,Sg (t13 w.params) 363 638 os,cE,⟨181,0,185,16⟩):=by rw[eo];kernel_rfl
theorem h13(w:bY)(os:bL):kC w 30 2 385 (Sg (t13 w.params) 363 638 os) ⟨181,0,185,16⟩=some (.next,Sg (t14 w.params) 419 711 os,cE,⟨207,0,213,22⟩):=by rw[eo];kernel_rfl
theorem h14(w:bY)(os:bL):kC w 32 4 391 (Sg (t14 w.params) 419 711 os) ⟨207,0,213,22⟩=some (.next,Sg (t15 w.params) 475 794 os,cE,⟨247,0,250,24⟩):=by rw[eo];kernel_rfl
theorem h15(w:bY)(os:bL):kC w 36 3 98 (Sg (t15 w.params) 475 794 os) ⟨247,0,250,24⟩=some (.next,Sg (t16 w.params) 496 825 os,cE,⟨267,0,275,75⟩):=by rw[eo];kernel_rfl
theorem h16(w:bY)(os:bL):kC w 39 3 386 (Sg (t16 w.params) 496 825 os) ⟨267,0,275,75⟩=some (.next,Sg (t17 w.params) 552 901 os,cE,⟨299,0,306,44⟩):=by rw[eo];kernel_rfl
theorem h17(w:bY)(os:bL):kC w 42 6 386 (Sg (t17 w.params) 552 901 os) ⟨299,0,306,44⟩=some (.next,Sg (t18 w.params) 597 984 os,cE,⟨383,0,383,9⟩):=by rw[eo];kernel_rfl
theorem h18(w:bY)(os:bL):kC w 48 5 400 (Sg (t18 w.params) 597 984 os) ⟨383,0,383,9⟩=some (.next,Sg (t19 w.params) 653 1069 os,cE,⟨434,0,434,8⟩):=by rw[eo];kernel_rfl
theorem h19(w:bY)(os:bL):kC w 53 1 517 (Sg (t19 w.params) 653 1069 os) ⟨434,0,434,8⟩=some (.next,Sg (t20 w.params) 737 1176 os,cE,⟨435,0,500,47⟩):=by rw[eo];kernel_rfl
theorem zv(w:bY)(os:bL):kC w 54 14 394 (Sg (t20 w.params) 737 1176 os) ⟨435,0,500,47⟩=some (.next,Sg (t21 w.params) 826 1278 os,cE,⟨553,0,557,19⟩):=by rw[eo];kernel_rfl
theorem h21(w:bY)(os:bL):kC w 68 13 373 (Sg (t21 w.params) 826 1278 os) ⟨553,0,557,19⟩=some (.next,Sg (t22 w.params) 907 1374 os,cE,⟨656,0,660,44⟩):=by rw[eo];kernel_rfl
theorem h22(w:bY)(os:bL):kC w 81 13 399 (Sg (t22 w.params) 907 1374 os) ⟨656,0,660,44⟩=some (.next,Sg (t23 w.params) 990 1494 os,cE,⟨840,0,857,34⟩):=by rw[eo];kernel_rfl
theorem h23(w:bY)(os:bL):kC w 94 1 27 (Sg (t23 w.params) 990 1494 os) ⟨840,0,857,34⟩=some (.next,Sg (R7 w.params) 995 1500 os,cE,⟨858,0,917,88⟩):=by rw[eo];kernel_rfl
end
end Mine.HD
end
section
open PySem PySem.W PyProof.Rows PySem.Challenge
namespace Mine.HD
abbrev ann:Option Value:=some (R 6)
abbrev B0:List Frame:=[topFrame p0]
theorem op0:opening pw=plainProg pw.main.scope.names:=by kernel_rfl
theorem Ut(s:Shared):fenceModules? pw s=some s:=by kernel_rfl
theorem VP(w:bY):((boot_heap w.params).isNs mainGlobals&&(#[]:Array GenState).size==0,(boot_heap w.params).objs.size,(boot_heap w.params).nsMap mainGlobals "__annotations__")=(true,11,ann):=by kernel_rfl
theorem abc(w:bY)(os:bL):topGo treeTable pw w 11 ann 12 ⟨boot_heap w.params,#[],A9,DD,os⟩ (topStub pw)=some ((Sg (t0 w.params) 15 187 os).abs,⟨denote treeTable cE,cE,p0,B0⟩):=by
 rw[PySem.W.Fast.te15667345088766844465,iK,PySem.W.Fast.te11892475500146522536]
 kernel_rfl
theorem abV(w:bY)(os:bL):segRunT treeTable pw w 11 ann 1 1 (Sg (t0 w.params) 15 187 os) (blockOf JB Gg cE p0 B0)=some (.next,Sg (t0 w.params) 15 187 os,cE,p0):=by
 rw[rG,iK]
 kernel_rfl
theorem abO:JB.drop 95=[]:=by kernel_rfl
theorem aaR(w:bY)(s:Shared)(p:Pos):topRun treeTable pw w 11 ann 2 s ⟨doneF .next,cE,p,B0⟩=some s:=by kernel_rfl
theorem hZ{w:bY}{a k n N:Nat}{s s':SharedT}{p b:Pos}{x:Shared}(h:kC w a k n s p=some (.next,s',cE,b))(r:topRun treeTable pw w 11 ann N s'.abs (restOf (JB.drop (a+k)) Gg cE b B0)=some x):
  topRun treeTable pw w 11 ann (n+N) s.abs (restOf (JB.drop a) Gg cE p B0)=some x:=by
 have e:JB.drop a=(JB.drop a).take k++JB.drop (a+k):=by rw[<-List.drop_drop];exact(ug _ _).symm
 rw[e];exact piece_app (segRun_of h) r
noncomputable def O6:Nat:=12+(1+(235+(214+(228+(242+(228+(214+(228+(214+(381+(121+(513+(477+(98+(385+(391+(98+(386+(386+(400+(517+(394+(373+(399+(27+2)))))))))))))))))))))))))
theorem aaF(w:bY)(os:bL):topRun treeTable pw w 11 ann O6 ⟨boot_heap w.params,#[],A9,DD,os⟩ (topStub pw)=some (Sg (R7 w.params) 995 1500 os).abs:=by
 refine go_top (abc w os) (piece_block (segRun_of (abV w os)) ?_);have f:topRun treeTable pw w 11 ann 2 (Sg (R7 w.params) 995 1500 os).abs (restOf (JB.drop 95) Gg cE ⟨858,0,917,88⟩ B0)=some (Sg (R7 w.params) 995 1500 os).abs:=by
  rw[abO];exact aaR w _ _
 exact hZ (a:=0) (k:=3) (h0 w os) (hZ (a:=3) (k:=1) (h1 w os) (hZ (a:=4) (k:=1) (h2 w os) (hZ (a:=5) (k:=1) (h3 w os) (hZ (a:=6) (k:=1) (h4 w os) (hZ (a:=7) (k:=1) (h5 w os) (hZ (a:=8) (k:=1) (h6 w os) (hZ (a:=9) (k:=1) (h7 w os) (hZ (a:=10) (k:=8) (h8 w os) (hZ (a:=18) (k:=4) (h9 w os) (hZ (a:=22) (k:=1) (Qb w os) (hZ (a:=23) (k:=1) (h11 w os) (hZ (a:=24) (k:=6) (h12 w os) (hZ (a:=30) (k:=2) (h13 w os) (hZ (a:=32) (k:=4) (h14 w os) (hZ (a:=36) (k:=3) (h15 w os) (hZ (a:=39) (k:=3) (h16 w os) (hZ (a:=42) (k:=6) (h17 w os) (hZ (a:=48) (k:=5) (h18 w os) (hZ (a:=53) (k:=1) (h19 w os) (hZ (a:=54) (k:=14) (zv w os) (hZ (a:=68) (k:=13) (h21 w os) (hZ (a:=81) (k:=13) (h22 w os) (hZ (a:=94) (k:=1) (h23 w os) f)))))))))))))))))))))))
end Mine.HD
end
section
open PySem PySem.W PyProof.Rows PySem.Challenge
namespace Mine.HD
def HF(P:bg):Heap:=absHeap (R7 P) 995 lf
def qv:eA:={pw with main:={pw.main with body:=[st 94]}}
def Gx:List Str:=((JB.take 94).flatMap bindsAtTop).filter λk=>!startupNames.contains k
abbrev SF(w:bY)(os:bL):Shared:=⟨HF w.params,#[],⟨0,0,0,0⟩,1500,os⟩
theorem XS(w:bY):staticsOk (importedModules pw.main.body) (boot_heap w.params) (HF w.params)=true:=by kernel_rfl
theorem W7(w:bY):namesBound pw (HF w.params)=true:=by kernel_rfl
theorem Xw(w:bY):laidKept (boot_heap w.params) (HF w.params)=true:=by kernel_rfl
theorem WY(w:bY)(os:bL):seen ((recsOf qv).map (·.name)) (ownsOf qv) [] {SF w os with gens:=#[]}=expectedOf qv:=by kernel_rfl
theorem XF(w:bY):(HF w.params).bltView=bltViewBooted:=by kernel_rfl
theorem XH(w:bY):(HF w.params).keysOk (looseW qv Gx) ((recsOf qv).map (·.name)) ((litsOf qv).map (·.1)) ((clssOf qv (looseW qv Gx)).map (·.name))=true:=by kernel_rfl
theorem Vz(w:bY):(HF w.params).accountedOkI (importedModules pw.main.body)=true:=by kernel_rfl
theorem YL(w:bY):(HF w.params).isNs mainGlobals=true:=by kernel_rfl
theorem X1(w:bY):(HF w.params).isNs nt=true:=by kernel_rfl
theorem UD(w:bY)(os:bL):tabsOk qv (SF w os)=true:=by kernel_rfl
theorem Uk(w:bY)(os:bL):pinSeenD qv (drecsOf qv) (SF w os)=pinGoodD (drecsOf qv):=by kernel_rfl
theorem RF(w:bY)(os:bL):plainSeenE qv (looseW qv Gx) (SF w os)=plainGoodE qv (looseW qv Gx):=by kernel_rfl
theorem Uw(w:bY)(os:bL):plainSeenD qv Gx (SF w os)=plainGoodD qv Gx:=by kernel_rfl
theorem Ti(w:bY)(os:bL):wideSeen qv (SF w os)=wideGood qv:=by kernel_rfl
theorem SK(w:bY)(os:bL):clsSeenW qv Gx (SF w os)=clsGoodW qv Gx:=by kernel_rfl
theorem UH(w:bY):tablesOk qv (HF w.params)=true:=by kernel_rfl
end Mine.HD
end
section
open PySem PySem.W PyProof.Rows PySem.Challenge
namespace Mine.HD
theorem RT(w:bY):(λos=>((staticsOk (importedModules pw.main.body) (boot_heap w.params) (HF w.params) &&namesBound pw (HF w.params) &&gensDone (SF w os) &&laidKept (boot_heap w.params) (HF w.params)),
    openSeen qv Gx (importedModules pw.main.body) (λ_=>true) true (SF w os),(SF w os).heap))=λ_=>(true,openGood qv Gx,HF w.params):=by
 refine funext λos=>looks_pair ?_ (looks_pair ?_ rfl)
 ·rw[XS,W7,Xw];rfl
 ·unfold openSeen openGood;refine looks_pair (WY w os) (looks_pair (XF w) (looks_pair ?_ (looks_pair (UD w os) (looks_pair (Uk w os) (looks_pair (RF w os) (looks_pair (Uw w os) (looks_pair (Ti w os) (SK w os))))))));show(_&&_&&_&&_&&_&&_&&_)=true;rw[XH,Vz,YL,X1,UH];rfl
theorem abj:∀w:bY,(fencedOpening treeTable pw w 30000).map (λs=>(s.heap,s.gens,s.drawn,s.toks))=some (boot_heap w.params,#[],A9,DD):=
 boot_open op0 (d3.mpr (by decide)) Ut
theorem le0:dN O6 30000=true:=by decide+kernel
theorem aaH(w:bY)(os:bL):(Sg (R7 w.params) 995 1500 os).abs=SF w os:=by kernel_rfl
theorem Rf(w:bY)(os:bL):topRun treeTable pw w 11 ann O6 ⟨boot_heap w.params,#[],A9,DD,os⟩ (topStub pw)=some (SF w os):=(aaF w os).trans (congrArg some (aaH w os))
theorem Yt:LeftO pw qv Gx (λ_=>true) (λs=>s.heap) (λw=>HF w.params) 30000:=by
 have h:=@LeftO.of_pieces pw qv Gx (λ_=>true) Heap (λs=>s.heap) (λw=>HF w.params) 30000 true boot_heap HF #[] #[] A9 ⟨0,0,0,0⟩ DD 1500 11 ann O6;exact h abj VP Rf le0 RT
end Mine.HD
end
section
namespace Mine
structure Fx where
 f:Nat
 k:Nat
 ms:List S
 N:dH
@[irreducible] def IZ:List Fx:=[⟨137,2,mH,sI⟩,⟨144,4,oV,uw⟩,⟨151,1,pT,wM⟩,⟨158,2,oD,uM⟩,⟨165,1,mK,se⟩,⟨172,2,lL,qE⟩,⟨179,1,lD,qT⟩,⟨186,2,lJ,qF⟩,⟨201,3,i7,oC⟩,⟨208,1,oU,uo⟩,⟨215,1,lQ,qA⟩,⟨236,1,jC,om⟩,⟨250,1,oH,uz⟩,⟨264,1,oN,ui⟩,⟨285,1,rL,yJ⟩,⟨292,2,oR,uj⟩,⟨313,2,lN,qR⟩,⟨327,2,rZ,yA⟩,⟨341,1,s8,yg⟩,⟨355,1,Ag,EH⟩,⟨362,1,pR,we⟩,⟨376,5,qc,vU⟩,⟨383,1,sj,yx⟩,⟨390,1,qd,wO⟩,⟨397,1,lF,qs⟩,⟨404,1,pX,vZ⟩,⟨418,1,mE,rR⟩,⟨425,1,mF,rT⟩,⟨432,2,qm,vP⟩,⟨446,6,km,ph⟩,⟨453,1,lO,qK⟩,⟨460,1,kj,pD⟩,⟨474,2,xV,BQ⟩,⟨481,1,vx,Ad⟩,⟨488,1,oO,uq⟩,⟨495,1,oX,uD⟩,⟨509,5,lI,qS⟩,⟨516,1,nh,rW⟩,⟨530,1,lC,qD⟩,⟨544,1,jM,oh⟩,⟨551,1,jK,og⟩,⟨565,5,mP,s6⟩,⟨570,1,oB,ux⟩,⟨575,1,mQ,s_⟩,⟨589,1,ko,pq⟩,⟨596,1,kg,pG⟩,⟨610,7,mS,sA⟩,⟨617,1,oS,uW⟩,⟨624,1,kB,pd⟩,⟨638,2,rX,yM⟩,⟨645,1,pY,wV⟩,⟨652,1,kn,pe⟩,⟨666,2,lj,qz⟩,⟨687,2,hJ,j9⟩,⟨694,3,iz,kU⟩,⟨715,2,eV,gi⟩,⟨722,3,lG,qJ⟩,⟨729,1,mJ,sY⟩,⟨743,2,sq,yy⟩,⟨750,1,sM,yS⟩,⟨757,1,oA,uC⟩,⟨764,1,sE,yL⟩,⟨769,1,vk,zK⟩,⟨776,1,sX,yK⟩,⟨783,2,p9,wo⟩,⟨790,2,jP,nZ⟩,⟨797,1,pP,vO⟩,⟨804,3,vm,Av⟩,⟨811,3,tj,yc⟩,⟨818,1,nj,rY⟩,⟨825,1,jQ,nP⟩,⟨832,1,rK,yi⟩,⟨837,3,pN,wG⟩,⟨844,2,mY,sV⟩,⟨849,1,tc,yO⟩,⟨854,1,mZ,rI⟩,⟨859,1,jh,mI⟩,⟨864,1,lP,qr⟩,⟨871,1,iO,lU⟩,⟨878,1,pZ,wh⟩,⟨885,3,vf,zW⟩,⟨892,2,qj,wy⟩,⟨899,3,sx,yh⟩,⟨906,1,mT,r_⟩,⟨913,1,pW,wt⟩,⟨920,1,gG,jH⟩,⟨925,3,iQ,lV⟩,⟨932,3,jJ,nX⟩,⟨939,3,ow,uT⟩,⟨946,2,lR,qH⟩,⟨953,3,iA,kV⟩,⟨960,2,g_,jZ⟩,⟨967,2,fW,i6⟩,⟨972,2,ql,wi⟩,⟨977,4,jk,mO⟩,⟨982,2,iP,lY⟩,⟨989,7,sN,yC⟩,⟨994,1,Ih,Qd⟩]
@[irreducible] noncomputable def gO(P:bg)(a:Nat):Obj:=((HD.R7 P).get a).getD default
@[irreducible] noncomputable def ks:List Nat:=gp 995
theorem CQ{b:Nat}:b∈ks ↔ b<995:=by unfold ks;exact List.mem_range
def KK(P:bg)(a:Nat)(o:Obj):fg:=ks.map (λb=>(b,gO P b))++[(a,o)]
def fD(P:bg)(a:Nat):FuncData:=match (gO P a).data with
 | .func d=>d
 |_=>default
def bF(P:bg)(a:Nat):List jz:=match (fD P a).body with
 | .stmts b=>b
 |_=>[]
def xF(P:bg)(a:Nat):List Str:=(fD P a).params.args.map (·.arg)
def isF(P:bg)(a:Nat):Bool:=(match (gO P a).data with| .func _=>true|_=>false) &&((fD P a).globals==mainGlobals&&((fD P a).closure.isEmpty&&((fD P a).builtins==nt&&(match (fD P a).body with| .stmts _=>true|_=>false))))
theorem UC{P:bg}{a:Nat}(h:(match (gO P a).data with| .func _=>true|_=>false)=true):(gO P a).data=.func (fD P a):=by
 unfold fD;generalize (gO P a).data=d at h⊢;cases d with
 |func d=>rfl
 |_=>cases h
theorem RU{P:bg}{a:Nat}(h:(match (fD P a).body with| .stmts _=>true|_=>false)=true):(fD P a).body=.stmts (bF P a):=by
 unfold bF;generalize (fD P a).body=d at h⊢;cases d with
 |stmts d=>rfl
 |expr _=>cases h
def fOk(P:bg)(b:Nat)(o:Obj)(x:Fx):Bool:=isF P x.f&&(aB x.f 995&&(codeIn (KK P b o) (fD P x.f).code (fD P x.f).qualname&&(ic (xF P x.f).length x.k&&(T6 (fD P x.f).scope (xF P x.f) &&(Ej x.N (fD P x.f).scope.names&&(argsOk x.N (xF P x.f) &&yZ aG z_ x.N (fD P x.f).scope.names true x.ms (bF P x.f)))))))
theorem NJ(P:bg)(b:Nat)(o:Obj):IZ.map (λx=>fOk P b o x)=IZ.map (λ_=>true):=by kernel_rfl
theorem Y0(P:bg):IZ.map (λx=>yW x.ms (bF P x.f))=IZ.map (λx=>bF P x.f):=by kernel_rfl
@[irreducible] def fk(k:Nat):List Fx:=IZ.filter λx=>ic x.k k&&!Nat.beq x.f 201
theorem bind1(P:bg)(v:Value):(fk 1).map (λx=>bindArgs (fD P x.f) ⟨[v],[]⟩)=(fk 1).map (λx=>pure ((xF P x.f).zip [v])):=by kernel_rfl
theorem VV(P:bg)(a v:Value):(fk 2).map (λx=>bindArgs (fD P x.f) ⟨[a,v],[]⟩)=(fk 2).map (λx=>pure ((xF P x.f).zip [a,v])):=by kernel_rfl
theorem Yh(P:bg)(b a v:Value):(fk 3).map (λx=>bindArgs (fD P x.f) ⟨[b,a,v],[]⟩)=(fk 3).map (λx=>pure ((xF P x.f).zip [b,a,v])):=by kernel_rfl
theorem V9(P:bg)(c b a v:Value):(fk 4).map (λx=>bindArgs (fD P x.f) ⟨[c,b,a,v],[]⟩)=(fk 4).map (λx=>pure ((xF P x.f).zip [c,b,a,v])):=by kernel_rfl
theorem Wb(P:bg)(d c b a v:Value):(fk 5).map (λx=>bindArgs (fD P x.f) ⟨[d,c,b,a,v],[]⟩)=(fk 5).map (λx=>pure ((xF P x.f).zip [d,c,b,a,v])):=by kernel_rfl
theorem Wq(P:bg)(e d c b a v:Value):(fk 6).map (λx=>bindArgs (fD P x.f) ⟨[e,d,c,b,a,v],[]⟩)=(fk 6).map (λx=>pure ((xF P x.f).zip [e,d,c,b,a,v])):=by kernel_rfl
theorem VU(P:bg)(g e d c b a v:Value):(fk 7).map (λx=>bindArgs (fD P x.f) ⟨[g,e,d,c,b,a,v],[]⟩)=(fk 7).map (λx=>pure ((xF P x.f).zip [g,e,d,c,b,a,v])):=by kernel_rfl
theorem V6:IZ.all (λx=>dN 1 x.k&&dN x.k 7)=true:=by decide+kernel
theorem bindAll(P:bg){x:Fx}(g:x∈IZ)(h:x.f≠201):∀{a:List Value},a.length=x.k->bindArgs (fD P x.f) ⟨a,[]⟩=pure ((xF P x.f).zip a):=by
 intro a hl;have m:∀k,x.k=k->x∈fk k:=λk e=>by
  unfold fk;exact List.mem_filter.mpr ⟨g,by rw[e,Nat.beq_refl];cases q:ic x.f 201 with|false=>rfl|true=>exact absurd (uX q) h⟩
 have d:=ag.mp (cJ.mp V6 x g);have c:=aE d.1;have b:=aE d.2
 match a,hl with
 |[],hl=>rw[<-hl] at c;exact absurd c (by decide)
 |[v0],hl=>exact cQ.mp (bind1 P v0) x (m 1 hl.symm)
 |[v0,v1],hl=>exact cQ.mp (VV P v0 v1) x (m 2 hl.symm)
 |[v0,v1,v2],hl=>exact cQ.mp (Yh P v0 v1 v2) x (m 3 hl.symm)
 |[v0,v1,v2,v3],hl=>exact cQ.mp (V9 P v0 v1 v2 v3) x (m 4 hl.symm)
 |[v0,v1,v2,v3,v4],hl=>exact cQ.mp (Wb P v0 v1 v2 v3 v4) x (m 5 hl.symm)
 |[v0,v1,v2,v3,v4,v5],hl=>exact cQ.mp (Wq P v0 v1 v2 v3 v4 v5) x (m 6 hl.symm)
 |[v0,v1,v2,v3,v4,v5,v6],hl=>exact cQ.mp (VU P v0 v1 v2 v3 v4 v5 v6) x (m 7 hl.symm)
 |_::_::_::_::_::_::_::_::r,hl=>rw[<-hl] at b;simp only[aU] at b;exact absurd b (by omega)
theorem lookup_at{g:Nat->Obj}{r:fg}{b:Nat}:∀{l:List Nat},b∈l->((l.map λb=>(b,g b))++r).lookup b=some (g b)
 |x::l,h=>by
  show(match b==x with|true=>some (g x)|false=>((l.map λb=>(b,g b))++r).lookup b)=some (g b);cases q:b==x with
  |true=>rw[beq_iff_eq.mp q]
  |false=>
   rcases bE.mp h with e|h
   ·rw[e,beq_self_eq_true] at q;cases q
   ·exact lookup_at h
theorem vj{g:Nat->Obj}{r:fg}{b:Nat}:∀{l:List Nat},b∉l->((l.map λb=>(b,g b))++r).lookup b=r.lookup b
 |[],_=>rfl
 |x::l,h=>by
  show(match b==x with|true=>some (g x)|false=>((l.map λb=>(b,g b))++r).lookup b)=_;cases q:b==x with
  |true=>exact absurd (beq_iff_eq.mp q▸x_) h
  |false=>exact vj λm=>h (.tail _ m)
theorem Nr{P:bg}{a b:Nat}{o:Obj}(h:b<995):(KK P a o).lookup b=some (gO P b):=lookup_at (CQ.mpr h)
theorem PJ{P:bg}{a:Nat}{o:Obj}(h:995<=a):(KK P a o).lookup a=some o:=by
 unfold KK;rw[vj λm=>iD _ (aZ (CQ.mp m) h)];show(match a==a with|true=>some o|false=>none)=_;rw[beq_self_eq_true]
theorem Wu{P:bg}{a:Nat}{o:Obj}{h:Heap}(h1:∀b,b<995->h.get? b=some (gO P b))(h2:h.get? a=some o):(KK P a o).In h:=λb x e=>by
 by_cases q:b<995
 ·rw[Nr q] at e;cases e;exact h1 b q
 ·unfold KK at e;rw[vj λm=>q (CQ.mp m)] at e;have e:(match b==a with|true=>some o|false=>none)=some x:=e;cases z:b==a with
  |true=>rw[z] at e;cases e;rw[beq_iff_eq.mp z];exact h2
  |false=>rw[z] at e;cases e
theorem HC{P:bg}{a:Nat}{o:Obj}:MJ (KK P a o)=a:=by
 unfold MJ KK;rw[JN];rfl
theorem Pt{P:bg}{a:Nat}{c:Value}{d:Option Addr}{b:Array Value}{n:Nat}{sl:Array (Option Value)}:Gd (KK P a ⟨c,d,.seq b n,sl⟩)=(b.toList.take 24).map OS:=by
 unfold Gd KK;rw[JN];rfl
noncomputable def nmB(K:fg)(x:Str)(v:Value):Bool:=nsIn K mainGlobals x==some (some v) ||(nsIn K mainGlobals x==some none&&(bootBuiltins x==some v&&x != "__name__"))
theorem GU{K:fg}{x:Str}{v:Value}(h:nmB K x v=true):xX K x v:=by
 rcases nq.mp h with h|h
 ·exact .inl (beq_iff_eq.mp h)
 ·have a:=ag.mp h;have b:=ag.mp a.2;exact .inr ⟨beq_iff_eq.mp a.1,beq_iff_eq.mp b.1,by simpa using b.2⟩
def Vm(K:fg):Ff->Bool
 | .fn f=>IC K (.ref f)
 | .cls C i=>IC K (.ref C) &&(makesIn K C&&(findIn K (.ref C) "__init__" ==some (some (.ref i)) &&(isFn K (.ref i) &&rP K C)))
 |_=>true
theorem OA{K:fg}{c:Ff}(h:Vm K c=true):Kp K c:=by
 cases c with
 |fn f=>exact h
 |cls C i=>
  have a:=ag.mp h;have b:=ag.mp a.2;have c:=ag.mp b.2;have d:=ag.mp c.2;exact⟨a.1,b.1,beq_iff_eq.mp c.1,d.1,d.2⟩
 |_=>trivial
def gB(K:fg)(x:Str):GE->Bool
 | .call c=>nmB K x (GC c) &&Vm K c
 | .int i=>(match nsIn K mainGlobals x with
   |some (some (.int j _))=>i==j
   |_=>false)
 | .exc C=>nsIn K mainGlobals x==some (some (.ref C)) &&excIn K C Ll "Exception.__new__"
 | .nk=>nmB K x (.type "range")
@[irreducible] def gL:List (Str×GE):=Q0.map λp=>(eK p.1,p.2)
theorem aba(P:bg)(b:Nat)(o:Obj):gL.map (λp=>gB (KK P b o) p.1 p.2)=gL.map (λ_=>true):=by kernel_rfl
@[irreducible] def mL:List (Addr×Nat×Addr):=QX.flatMap λp=>p.2.map λq=>(p.1,q)
theorem allM(P:bg)(b:Nat)(o:Obj):mL.map (λp=>findIn (KK P b o) (.ref p.1) (zU p.2.1) ==some (some (.ref p.2.2)) &&(isFn (KK P b o) (.ref p.2.2) &&IC (KK P b o) (.ref p.2.2)))=mL.map (λ_=>true):=by kernel_rfl
section
variable{P:bg}{b:Nat}{o:Obj}
theorem Wh{x:Str}{g:GE}(h:aG.glob x=some g):gB (KK P b o) x g=true:=cQ.mp (aba P b o) (x,g) ((by unfold gL;exact mem_of_lookup h))
theorem ML:zM aG (KK P b o):=⟨λx C h=>by
 have a:=ag.mp (Wh (P:=P) (b:=b) (o:=o) h);exact⟨beq_iff_eq.mp a.1,a.2⟩⟩
theorem YO:BY aG:=⟨λ_ _ h=>beq_iff_eq.mp h⟩
theorem tabsOk{d:Array Value}{g:Option Addr}{n:Nat}{sl:Array (Option Value)}(q:995<=b)(p:∀v∈d.toList,∃i t,v=.int i t)(k:d.size<=63):TabsOk aG (KK P b ⟨.type "list",g,.seq d n,sl⟩) where
 call x c h:=by
  have a:=ag.mp (Wh (P:=P) (b:=b) (o:=⟨.type "list",g,.seq d n,sl⟩) h);exact⟨GU a.1,OA a.2⟩
 int x i h:=by
  have a:(match nsIn (KK P b ⟨.type "list",g,.seq d n,sl⟩) mainGlobals x with
   |some (some (.int j _))=>i==j
   |_=>false)=true:=Wh (P:=P) (b:=b) (o:=⟨.type "list",g,.seq d n,sl⟩) h
  split at a
  ·rename_i j t e;exact⟨t,.inl (by rw[e,beq_iff_eq.mp a])⟩
  ·cases a
 exc x C h:=⟨(ML.exc x C h).1,_,_,(ML.exc x C h).2⟩
 nk x h:=GU (Wh (P:=P) (b:=b) (o:=⟨.type "list",g,.seq d n,sl⟩) h)
 bp C m f h:=by
  obtain ⟨l,h1,h2⟩:=Option.bind_eq_some_iff.mp h
  have a:=ag.mp (cQ.mp (allM P b ⟨.type "list",g,.seq d n,sl⟩) (C,m,f) (by unfold mL;exact List.mem_flatMap.mpr ⟨(C,l),mem_of_lookup h1,cK.mpr ⟨(m,f),mem_of_lookup h2,rfl⟩⟩));have c:=ag.mp a.2;exact⟨beq_iff_eq.mp a.1,c.1,c.2⟩
 JO:=⟨d,λh X=>by rw[HC];exact⟨_,X _ _ (PJ q),rfl,n,rfl⟩,p,Pt,k⟩
theorem aaN{x:Fx}{ext:List Value}(i:x∈IZ)(j:∀(s:Shared)(c:List Value),(KK P b o).In s.heap->c.length+ext.length=(xF P x.f).length->BindsTo s (fD P x.f) ⟨c,[]⟩ ((xF P x.f).zip (c++ext))):
  Wm (KK P b o) x.f (bF P x.f) (fD P x.f).scope (xF P x.f) ext:=by
 have h:=ag.mp (cQ.mp (NJ P b o) x i);have h2:=ag.mp h.2;have a:=ag.mp h.1;have g:=ag.mp a.2;have e:=ag.mp g.2;have d:=ag.mp e.2;exact⟨⟨_,_,Nr (Nat.blt_eq.mp h2.1),UC a.1,RU d.2,rfl,beq_iff_eq.mp g.1,List.isEmpty_iff.mp e.1,beq_iff_eq.mp d.1,(ag.mp h2.2).1,j⟩⟩
end
section
variable{w:bY}{b:Nat}{aQ:Array Value}{dd:Option Addr}{n:Nat}{sl:Array (Option Value)}
abbrev KL(P:bg)(b:Nat)(dd:Option Addr)(aQ:Array Value)(n:Nat)(sl:Array (Option Value)):fg:=KK P b ⟨.type "list",dd,.seq aQ n,sl⟩
theorem bd(u:995<=b)(q:∀v∈aQ.toList,∃i t,v=.int i t)(p:aQ.size<=63){x:Fx}(d:x∈IZ){ext:List Value}{xext:List V}(c:∀h,bU h ext xext)(hl:ext.length=xext.length)(U:∀(s:Shared)(vs:List Value),(KL w.params b dd aQ n sl).In s.heap->vs.length+ext.length=(xF w.params x.f).length->BindsTo s (fD w.params x.f) ⟨vs,[]⟩ ((xF w.params x.f).zip (vs++ext))):
  Bd HD.pw w (KL w.params b dd aQ n sl) x.f x.k xext x.ms:=λm e H Q X r h=>by
 have a:=ag.mp (cQ.mp (NJ w.params b ⟨.type "list",dd,.seq aQ n,sl⟩) x d);have z:=ag.mp a.2;have y:=ag.mp z.2;have o:=ag.mp y.2;have l:=ag.mp o.2;have j:=ag.mp l.2;have g:=ag.mp j.2;exact Bg (tabsOk u q p) ML YO (aaN d U) c l.1 j.1 g.1 (by rw[uX o.1];exact r) (cQ.mp (Y0 w.params) x d) g.2 h
theorem bd0(g:995<=b)(d:∀v∈aQ.toList,∃i t,v=.int i t)(c:aQ.size<=63){x:Fx}(h:x∈IZ)(e:ic x.f 201=false):Bd HD.pw w (KL w.params b dd aQ n sl) x.f x.k [] x.ms:=
 bd g d c h (λ_=>.nil) rfl λs l _ hl=>by
  have a:=ag.mp (cQ.mp (NJ w.params b ⟨.type "list",dd,.seq aQ n,sl⟩) x h);have j:=ag.mp (ag.mp (ag.mp a.2).2).2;rw[a_];exact BindsTo.of_eq (bindAll w.params h (tK e) (by rw[<-uX j.1];exact hl))
theorem RM(P:bg):gO P 194=⟨.type "tuple",none,.seq #[.int 0 432] 0,#[]⟩:=by kernel_rfl
theorem NQ{s:Shared}{d:FuncData}{p1 p2 p3:Pos}{de:List dh}{u v:Value}(a:d.params=⟨[],[⟨"self",none,p1⟩,⟨"data",none,p2⟩,⟨"at",none,p3⟩],none,[],[],none,de⟩)(b:d.defaults=.ref 194)(h:s.heap.get? 194=some ⟨.type "tuple",none,.seq #[.int 0 432] 0,#[]⟩):
  BindsTo s d ⟨[u,v],[]⟩ [("self",u),("data",v),("at",.int 0 432)]:=by
 cases d;cases a;cases b;exact BindsTo.of_defaults (T:=194) rfl h rfl rfl rfl
end
end Mine
end
section
open PySem PySem.W PyProof.Rows PySem.Challenge
namespace Mine
section
variable{w:bY}{b:Nat}{aQ:Array Value}{dd:Option Addr}{n:Nat}{sl:Array (Option Value)}
theorem LY(i:Nat){x:Fx}(h:IZ[i]?=some x):x∈IZ:=JM h
theorem TJ{l:List Value}(h:l.length=2):∃a b,l=[a,b]:=by
 cases l with
 |nil=>cases h
 |cons a l=>
  cases l with
  |nil=>cases h
  |cons b l=>
   cases l with
   |nil=>exact⟨a,b,rfl⟩
   |cons=>cases h
theorem Xs(j:995<=b)(d:∀v∈aQ.toList,∃i t,v=.int i t)(c:aQ.size<=63):Bd HD.pw w (KL w.params b dd aQ n sl) 201 3 [.int 0] i7:=
 bd (x:=⟨201,3,i7,oC⟩) (ext:=[.int 0 432]) (xext:=[.int 0]) j d c (LY 8 (by kernel_rfl)) (λh=>.cons (.int 0 432) .nil) rfl λs a X hl=>by
  have e:xF w.params 201=[("self":Str),"data","at"]:=by kernel_rfl
  have hl:a.length+1=3:=by rw[show(⟨201,3,i7,oC⟩:Fx).f=201 from rfl,e] at hl;exact hl
  have g:=X 194 _ (Nr (by decide));rw[RM] at g;show BindsTo s (fD w.params 201) ⟨a,[]⟩ ((xF w.params 201).zip (a++[.int 0 432]));erw[gI (TJ (Nat.succ.inj hl)),(u v k),aj k,aj e,<-NQ (p1:=((fD w.params 201).params.args.getD 0 default).pos) (p2:=((fD w.params 201).params.args.getD 1 default).pos) (p3:=((fD w.params 201).params.args.getD 2 default).pos) (de:=(fD w.params 201).params.defaults) (by kernel_rfl) (by kernel_rfl) g]
theorem fF(e:995<=b)(c:∀v∈aQ.toList,∃i t,v=.int i t)(a:aQ.size<=63)(i:Nat){x:Fx}(h:IZ[i]?=some x)(d:ic x.f 201=false):Bd HD.pw w (KL w.params b dd aQ n sl) x.f x.k [] x.ms:=bd0 e c a (LY i h) d
theorem Vk(c:995<=b)(a:∀v∈aQ.toList,∃i t,v=.int i t)(h:aQ.size<=63):Rd HD.pw w (KL w.params b dd aQ n sl) where
 wJ:=fF c a h 0 (x:=⟨137,2,mH,sI⟩) (by kernel_rfl) rfl
 yu:=fF c a h 1 (x:=⟨144,4,oV,uw⟩) (by kernel_rfl) rfl
 zY:=fF c a h 2 (x:=⟨151,1,pT,wM⟩) (by kernel_rfl) rfl
 yd:=fF c a h 3 (x:=⟨158,2,oD,uM⟩) (by kernel_rfl) rfl
 wX:=fF c a h 4 (x:=⟨165,1,mK,se⟩) (by kernel_rfl) rfl
 uK:=fF c a h 5 (x:=⟨172,2,lL,qE⟩) (by kernel_rfl) rfl
 ur:=fF c a h 6 (x:=⟨179,1,lD,qT⟩) (by kernel_rfl) rfl
 uA:=fF c a h 7 (x:=⟨186,2,lJ,qF⟩) (by kernel_rfl) rfl
 yt:=Xs c a h
 yD:=fF c a h 9 (x:=⟨208,1,oU,uo⟩) (by kernel_rfl) rfl
 uu:=fF c a h 10 (x:=⟨215,1,lQ,qA⟩) (by kernel_rfl) rfl
 qu:=fF c a h 11 (x:=⟨236,1,jC,om⟩) (by kernel_rfl) rfl
 yw:=fF c a h 12 (x:=⟨250,1,oH,uz⟩) (by kernel_rfl) rfl
 yP:=fF c a h 13 (x:=⟨264,1,oN,ui⟩) (by kernel_rfl) rfl
 BC:=fF c a h 14 (x:=⟨285,1,rL,yJ⟩) (by kernel_rfl) rfl
 yR:=fF c a h 15 (x:=⟨292,2,oR,uj⟩) (by kernel_rfl) rfl
 uN:=fF c a h 16 (x:=⟨313,2,lN,qR⟩) (by kernel_rfl) rfl
 BN:=fF c a h 17 (x:=⟨327,2,rZ,yA⟩) (by kernel_rfl) rfl
 BB:=fF c a h 18 (x:=⟨341,1,s8,yg⟩) (by kernel_rfl) rfl
 rising:=fF c a h 19 (x:=⟨355,1,Ag,EH⟩) (by kernel_rfl) rfl
 zN:=fF c a h 20 (x:=⟨362,1,pR,we⟩) (by kernel_rfl) rfl
 Ai:=fF c a h 21 (x:=⟨376,5,qc,vU⟩) (by kernel_rfl) rfl
 BX:=fF c a h 22 (x:=⟨383,1,sj,yx⟩) (by kernel_rfl) rfl
 Ak:=fF c a h 23 (x:=⟨390,1,qd,wO⟩) (by kernel_rfl) rfl
 uv:=fF c a h 24 (x:=⟨397,1,lF,qs⟩) (by kernel_rfl) rfl
 AU:=fF c a h 25 (x:=⟨404,1,pX,vZ⟩) (by kernel_rfl) rfl
 wY:=fF c a h 26 (x:=⟨418,1,mE,rR⟩) (by kernel_rfl) rfl
 wW:=fF c a h 27 (x:=⟨425,1,mF,rT⟩) (by kernel_rfl) rfl
 AS:=fF c a h 28 (x:=⟨432,2,qm,vP⟩) (by kernel_rfl) rfl
 sQ:=fF c a h 29 (x:=⟨446,6,km,ph⟩) (by kernel_rfl) rfl
 uQ:=fF c a h 30 (x:=⟨453,1,lO,qK⟩) (by kernel_rfl) rfl
 sH:=fF c a h 31 (x:=⟨460,1,kj,pD⟩) (by kernel_rfl) rfl
 Iv:=fF c a h 32 (x:=⟨474,2,xV,BQ⟩) (by kernel_rfl) rfl
 Ew:=fF c a h 33 (x:=⟨481,1,vx,Ad⟩) (by kernel_rfl) rfl
 yE:=fF c a h 34 (x:=⟨488,1,oO,uq⟩) (by kernel_rfl) rfl
 yq:=fF c a h 35 (x:=⟨495,1,oX,uD⟩) (by kernel_rfl) rfl
 uL:=fF c a h 36 (x:=⟨509,5,lI,qS⟩) (by kernel_rfl) rfl
 vQ:=fF c a h 37 (x:=⟨516,1,nh,rW⟩) (by kernel_rfl) rfl
 uB:=fF c a h 38 (x:=⟨530,1,lC,qD⟩) (by kernel_rfl) rfl
 qU:=fF c a h 39 (x:=⟨544,1,jM,oh⟩) (by kernel_rfl) rfl
 qB:=fF c a h 40 (x:=⟨551,1,jK,og⟩) (by kernel_rfl) rfl
 wL:=fF c a h 41 (x:=⟨565,5,mP,s6⟩) (by kernel_rfl) rfl
 ye:=fF c a h 42 (x:=⟨570,1,oB,ux⟩) (by kernel_rfl) rfl
 wF:=fF c a h 43 (x:=⟨575,1,mQ,s_⟩) (by kernel_rfl) rfl
 s9:=fF c a h 44 (x:=⟨589,1,ko,pq⟩) (by kernel_rfl) rfl
 sF:=fF c a h 45 (x:=⟨596,1,kg,pG⟩) (by kernel_rfl) rfl
 wz:=fF c a h 46 (x:=⟨610,7,mS,sA⟩) (by kernel_rfl) rfl
 yB:=fF c a h 47 (x:=⟨617,1,oS,uW⟩) (by kernel_rfl) rfl
 ti:=fF c a h 48 (x:=⟨624,1,kB,pd⟩) (by kernel_rfl) rfl
 BG:=fF c a h 49 (x:=⟨638,2,rX,yM⟩) (by kernel_rfl) rfl
 AA:=fF c a h 50 (x:=⟨645,1,pY,wV⟩) (by kernel_rfl) rfl
 th:=fF c a h 51 (x:=⟨652,1,kn,pe⟩) (by kernel_rfl) rfl
 uy:=fF c a h 52 (x:=⟨666,2,lj,qz⟩) (by kernel_rfl) rfl
 lX:=fF c a h 53 (x:=⟨687,2,hJ,j9⟩) (by kernel_rfl) rfl
 mM:=fF c a h 54 (x:=⟨694,3,iz,kU⟩) (by kernel_rfl) rfl
 gX:=fF c a h 55 (x:=⟨715,2,eV,gi⟩) (by kernel_rfl) rfl
 uR:=fF c a h 56 (x:=⟨722,3,lG,qJ⟩) (by kernel_rfl) rfl
 vL:=fF c a h 57 (x:=⟨729,1,mJ,sY⟩) (by kernel_rfl) rfl
 KA:=fF c a h 58 (x:=⟨743,2,sq,yy⟩) (by kernel_rfl) rfl
 Nv:=fF c a h 59 (x:=⟨750,1,sM,yS⟩) (by kernel_rfl) rfl
 Ea:=fF c a h 60 (x:=⟨757,1,oA,uC⟩) (by kernel_rfl) rfl
 Lb:=fF c a h 61 (x:=⟨764,1,sE,yL⟩) (by kernel_rfl) rfl
 Qt:=fF c a h 62 (x:=⟨769,1,vk,zK⟩) (by kernel_rfl) rfl
 Mo:=fF c a h 63 (x:=⟨776,1,sX,yK⟩) (by kernel_rfl) rfl
 HL:=fF c a h 64 (x:=⟨783,2,p9,wo⟩) (by kernel_rfl) rfl
 wU:=fF c a h 65 (x:=⟨790,2,jP,nZ⟩) (by kernel_rfl) rfl
 Hj:=fF c a h 66 (x:=⟨797,1,pP,vO⟩) (by kernel_rfl) rfl
 K8:=fF c a h 67 (x:=⟨804,3,vm,Av⟩) (by kernel_rfl) rfl
 Gi:=fF c a h 68 (x:=⟨811,3,tj,yc⟩) (by kernel_rfl) rfl
 B5:=fF c a h 69 (x:=⟨818,1,nj,rY⟩) (by kernel_rfl) rfl
 vM:=fF c a h 70 (x:=⟨825,1,jQ,nP⟩) (by kernel_rfl) rfl
 M9:=fF c a h 71 (x:=⟨832,1,rK,yi⟩) (by kernel_rfl) rfl
 HW:=fF c a h 72 (x:=⟨837,3,pN,wG⟩) (by kernel_rfl) rfl
 pb:=fF c a h 73 (x:=⟨844,2,mY,sV⟩) (by kernel_rfl) rfl
 KV:=fF c a h 74 (x:=⟨849,1,tc,yO⟩) (by kernel_rfl) rfl
 B7:=fF c a h 75 (x:=⟨854,1,mZ,rI⟩) (by kernel_rfl) rfl
 um:=fF c a h 76 (x:=⟨859,1,jh,mI⟩) (by kernel_rfl) rfl
 AL:=fF c a h 77 (x:=⟨864,1,lP,qr⟩) (by kernel_rfl) rfl
 td:=fF c a h 78 (x:=⟨871,1,iO,lU⟩) (by kernel_rfl) rfl
 Hy:=fF c a h 79 (x:=⟨878,1,pZ,wh⟩) (by kernel_rfl) rfl
 QJ:=fF c a h 80 (x:=⟨885,3,vf,zW⟩) (by kernel_rfl) rfl
 Iy:=fF c a h 81 (x:=⟨892,2,qj,wy⟩) (by kernel_rfl) rfl
 NB:=fF c a h 82 (x:=⟨899,3,sx,yh⟩) (by kernel_rfl) rfl
 BO:=fF c a h 83 (x:=⟨906,1,mT,r_⟩) (by kernel_rfl) rfl
 Ht:=fF c a h 84 (x:=⟨913,1,pW,wt⟩) (by kernel_rfl) rfl
 nV:=fF c a h 85 (x:=⟨920,1,gG,jH⟩) (by kernel_rfl) rfl
 sk:=fF c a h 86 (x:=⟨925,3,iQ,lV⟩) (by kernel_rfl) rfl
 wA:=fF c a h 87 (x:=⟨932,3,jJ,nX⟩) (by kernel_rfl) rfl
 EP:=fF c a h 88 (x:=⟨939,3,ow,uT⟩) (by kernel_rfl) rfl
 z9:=fF c a h 89 (x:=⟨946,2,lR,qH⟩) (by kernel_rfl) rfl
 qL:=fF c a h 90 (x:=⟨953,3,iA,kV⟩) (by kernel_rfl) rfl
 pn:=fF c a h 91 (x:=⟨960,2,g_,jZ⟩) (by kernel_rfl) rfl
 lW:=fF c a h 92 (x:=⟨967,2,fW,i6⟩) (by kernel_rfl) rfl
 Ie:=fF c a h 93 (x:=⟨972,2,ql,wi⟩) (by kernel_rfl) rfl
 uE:=fF c a h 94 (x:=⟨977,4,jk,mO⟩) (by kernel_rfl) rfl
 rO:=fF c a h 95 (x:=⟨982,2,iP,lY⟩) (by kernel_rfl) rfl
 Kc:=fF c a h 96 (x:=⟨989,7,sN,yC⟩) (by kernel_rfl) rfl
 law:=fF c a h 97 (x:=⟨994,1,Ih,Qd⟩) (by kernel_rfl) rfl
end
theorem IK{R:WRecords}{y:WData}{ys:List WData}{e:WShape}:rH R (y::ys) e=(WShape.has R y e&&rH R ys e):=by simp only[rH]
theorem F9{R:WRecords}{cl:Str->Option Addr}{h:Heap}:∀{xs:List WData} {vs:List Value} {as:List Addr},ReadsAllW R cl h vs xs as->rH R xs .int=true->∀v∈vs,∃i t,v=.int i t:=by
 intro xs
 induction xs with
 |nil=>
  intro vs as r q v m;rw[(readsAllW_nil_inv r).1] at m;exact nomatch m
 |cons x xs c=>
  erw[(vs as r q v m),iR (readsAllW_cons_inv r),(u us g f e1 _ a b)];rw[e1] at m;have q:=ag.mp (IK.symm.trans q);erw[<-(bE.mp m).elim (λe=>?_) λm=>c b q.2 v m,bf (hasW_int q.1),(i d)];rw[d] at a;exact⟨i,(readsW_int_inv a).imp λt z=>e.trans z.1⟩
theorem Sj{xs:List WData}(h:(OpenLaw.pre rw_xm0855_01).holds [] {args:=[.list xs]}=true):xs.length<=63:=by
 simp[OpenLaw.pre,rw_xm0855_01,WTm.holds,WTm.value,less?,Num.less?] at h
 by_cases q:(63:Int)<xs.length
 ·rw[decide_eq_true q] at h;cases h
 ·omega
theorem RH(P:bg):ks.map (λb=>(gO P b).isFreed)=ks.map λ_=>false:=by kernel_rfl
theorem TY(P:bg){b:Nat}(h:b<995):(HD.HF P).get? b=some (gO P b):=by
 refine x8.mpr ⟨?_,?_⟩
 ·unfold HD.HF gO;rw[absHeap_at,if_pos h]
 ·have:=cQ.mp (RH P) b (CQ.mpr h)
  simpa using this
theorem OR(P:bg):(HD.HF P).objs.size=995:=by unfold HD.HF;exact absHeap_size _ _ _
theorem NT{K:fg}{B:Heap}{s:Shared}(st:xE K B)(k:B.StaysIn s.heap)(c:s.gens=#[]):gV K B [] s.os (λ_=>none) s:=by
 have n:∀a,¬FP (λ_=>none) s.heap a:=λa f=>by
  rcases f with f|⟨x,y,z⟩
  ·exact f rfl
  ·cases y
 exact⟨st,k,⟨λa m h=>(nomatch h),λx y d h=>(nomatch h),λx d h=>(nomatch h)⟩,λa f=>absurd f (n a),λp b=>(nomatch b),c,rfl⟩
noncomputable abbrev Rm:RowW:=rw_xm0855_01.row.toRowW
theorem OT:zJ [] []:=λe h=>nomatch h
theorem ar0:Ar callerA [] 13:=⟨rfl,rfl,by decide,by decide⟩
theorem called(w:bY){a:Shared}{m f:Str->Option Value}(T:TopRead HD.qv (looseW HD.qv HD.Gx) m f a.heap)(p:∀b,b<995->a.heap.get? b=some (gO w.params b))(s:a.gens=#[]){l:Addr}{d:Option Addr}{c:Array Value}{n:Nat}{sl:Array (Option Value)}(hl:a.heap.get? l=some ⟨.type "list",d,.seq c n,sl⟩)(u:995<=l)(k:∀v∈c.toList,∃i t,v=.int i t)(j:c.size<=63):
  m "law"=some (.ref 994)/\bN (model HD.pw w) callerA (call (.ref 994) [.ref l]) (λv s'=>v=.bool true/\a.heap.StaysIn s'.heap/\s'.os=a.os/\s'.gens=#[]) (λ_ _=>False) a:=by
 have X:(KL w.params l d c n sl).In a.heap:=Wu p hl;have e:nsIn (KL w.params l d c n sl) mainGlobals "law"=some (some (.ref 994)):=by
  have:=ag.mp (Wh (P:=w.params) (b:=l) (o:=⟨.type "list",d,.seq c n,sl⟩) (x:= "law") (g:=.call (.fn 994)) (by kernel_rfl));rcases GU this.1 with h|h
  ·exact h
  ·exact absurd h.2.1 (by rw[show bootBuiltins "law"=none from by kernel_rfl];exact λq=>nomatch q)
 refine⟨mg_of X T.g e,sg (kP (SW (Q:=λv _=>v=.bool true) (X:=λ_ _=>False) (Vk u k j) (n:=13) (H:=λ_=>none) rfl (λ_=>rfl) a.heap [] a.os [] callerA a [.ref l] ar0 OT
  (NT ⟨X,HD.qv,_,m,f,T⟩ (λ_ _ e=>e) s) (.cons (by rw[HC];exact .ref l) .nil)) λr s' z=>?_)⟩
 rcases r with e|(_|_|_|v)
 ·obtain ⟨_,_,_,_,_,x,_⟩:=z;exact x
 ·exact z
 ·exact z
 ·exact z
 ·obtain ⟨x,H',r,q,S⟩:=z
  cases q;exact⟨r.inv,S.stays,S.os,S.gens⟩
noncomputable abbrev MW:Ctx:=⟨.builtin "claim.caller" {},none,none,[],none⟩
theorem done{w:bY}{b:Shared}{m:Str->Option Value}{vs:List Value}{R:Dx->Shared->Prop}(d:b.heap.Ns mainGlobals m)(g:m "law"=some (.ref 994))(h:bN (model HD.pw w) callerA (call (.ref 994) vs) (λv s'=>R (.ok (.ret v)) s'/\s'.gens=#[]) (λ_ _=>False) b):
  Sem.wp (model HD.pw w) MW (callStub "law" vs).cur (Sem.finPost (model HD.pw w) MW λr s'=>R r s'/\w8 s'.gens=false) (λe _ s'=>R (.error e) s'/\w8 s'.gens=false) default b:=by
 have t:bN (model HD.pw w) callerA (callStub "law" vs).cur (λa s'=>∃f,a=.done f/\(R (.ok f) s'/\w8 s'.gens=false)) (λe s'=>R (.error e) s'/\w8 s'.gens=false) b:=by
  refine az (bc (wpAny_nsGet d ?_));rw[g];exact az (p_mono h (λv s' z=>bh ⟨_,rfl,z.1,by rw[z.2];exact leftWithCleanup_false_of_bare AllBare.empty⟩) λ_ _ z=>z.elim)
 refine vG (model HD.pw w) MW _ (λa p s' z=>?_) (λ_ _ _ z=>z) default b (t MW default caller_in (by decide+kernel) λx c=>nomatch c)
 obtain ⟨f,rfl,z⟩:=z
 exact z
theorem aaf{w:bY}{s:Shared}(h:s.heap.isNs mainGlobals=true)(G:Ground HD.qv HD.Gx [] (λ_ _=>True) w s (s.heap.nsMap mainGlobals) (s.heap.nsMap nt) s.heap):isTheDefsW HD.pw s.heap "law":=by
 have h1:(defOf HD.qv "law").map (λe=>some (e.1.params,e.1.body,e.1.scope))=some (HD.pw.theDef "law"):=by kernel_rfl
 have h2:(defOf HD.qv "law").map (λe=>kwWritten? e.1.params.kwonlyargs e.1.params.kw_defaults)=(defOf HD.qv "law").map λe=>some e.2:=by kernel_rfl
 cases q:defOf HD.qv "law" with
 |none=>rw[q] at h1;cases h1
 |some e=>
  obtain ⟨d,kwd⟩:=e
  rw[q] at h1 h2;exact pinned_of_view h G q (bV h1).symm (bV h2)
theorem SQ:chainsOk HD.qv=true:=by kernel_rfl
theorem X9:opensWell HD.pw=true:=by kernel_rfl
theorem Xo:HD.pw.bare:=⟨rfl,rfl,rfl,rfl,rfl,by decide+kernel⟩
theorem Rf{P:Prop}{w:bY}{s:Shared}{W X:Str->Option Value}(hz:s.asleep)(Hz:s.gens=#[])(G:Ground HD.qv HD.Gx [] (λ_ _=>True) w s W X s.heap)(y:s.heap=HD.HF w.params){args:List WData}{ord:List dw->List dw}(p:Rm.claim.pre args=true)(t:WData.layableAll args=true)(O:∀l,(ord l).Perm l)(D:∀vs J k r s3,layAllW [] (classAt s.heap) w.params ord args s=some (vs,J)->schedN (denote table) HD.pw w k (.single J (callStub "law" vs))=.halted (outcomeOf r) s3->Rm.claim.Ends s args vs J r s3->s3.heap.life.seen=s.heap.life.seen->s3.rest=s.rest->P):P:=by
 have j:=pre_splitW (r:=Rm) p;erw[bf (jm.mp (layAllW_isSome (P:=w.params) (ord:=ord) G.has args Rm.args s j.1)),(E B)];have h:=layAllW_keeps _ _ _ B;have i:=layAllW_rest _ _ _ B;erw[cX (reads_layAllW O _ _ _ B t E.2.heap (λ_ _ e=>e)),(as m x q)];have L:Laid [] w s E.2 args E.1 as:=⟨⟨ord,O,B⟩,m,x,q,h,i.1.trans Hz,i.2.2.1⟩;erw[df (hasAllW_cons j.1),(d r A hd hr),ay (hasW_list hd),(C ed hx)];have A:args=[.list C]:=by rw[A,ed,hasAllW_nil hr]
 rw[A] at m;erw[iR (readsAllW_cons_inv m),(v vr a1 a2 e1 e2 U S),RL (readsW_list_open U),(l o Q n ai I F hc JR u e4)];have I:E.1=[.ref l]:=by rw[e1,I,(readsAllW_nil_inv S).1]
 have Y:995<=l:=by
  have:=(x.2.2 l (by rw[e2,e4];exact .head _)).1;rw[y,OR] at this;exact this
 have V:=G.keeps (λ_ _ _ _ _=>trivial) h;have Vj:Q.size<=63:=by
  have:=Sj (xs:=C) (by rw[<-A];exact j.2);rw[<-u.length] at this
  simpa using this
 have F:E.2.heap.get? l=some ⟨.type "list",o.dict,.seq Q n,o.slots⟩:=by rw[<-hc,<-JR];exact F
 have c:=called w (topRead_of V.T) (λb hb=>h b _ (by rw[y];exact TY _ hb)) L.gens F Y (F9 u hx) Vj;refine iR (wp_halts_full (M:=model HD.pw w) (c:=.builtin "claim.caller" {}) (R:=λr N=>GoodWG Rm.claim (classAt s.heap) (ExcName.means s.heap) args E.2 r N) (Shared.asleep_of_life i.2.2.2 hz)
  (done (vs:=E.1) V.T.g c.1 (by
   rw[I];exact p_mono c.2 (λv N z=>⟨⟨.inl ⟨v,.bool true,[],rfl,λ_=>rfl,by rw[z.1];exact .bool true,by rw[A];kernel_rfl,λ_=>⟨o5,λa ha=>nomatch ha⟩⟩,.of_keep z.2.1,z.2.2.1,.of_eq z.2.2.2⟩,z.2.2.2⟩) λ_ _ z=>z))) ?_
 intro k r s2 s3 Uo K H hR;have f:=Shared.forget_eq H;have z:=hR.laid (c:=Rm.claim) rfl rfl (ident_freeW rfl rfl rfl) L;exact D E.1 E.2 k r s3 B Uo (z.1.congr f.1) (by rw[(runN_life _ _ _ K).trans i.2.2.2]) (Shared.rest_eq (f.2.2.2.1.trans z.2.1))
theorem UR:Rm.claim.HoldsOpenBy (callStub "law") ["law"] rw_xm0855_01.row.keeps false:=by
 refine⟨⟨Xo,X9,rfl⟩,⟨[.list []],by decide+kernel,by decide+kernel⟩,λw=>?_⟩;have left:=HD.Yt.behind (XP:=λ_ _=>True) (λ_ _=>trivial) SQ w;refine⟨left.1,λl f=>(left.2 l f).imp λB z=>⟨z.1,z.2.1,z.2.2.imp λs z=>?_⟩⟩;have t:=z.2.2.2.1;have G:=z.2.2.2.2.1;have H:s.gens=#[]:=Array.eq_empty_of_size_eq_zero (beq_iff_eq.mp z.2.2.1);exact⟨z.1,(λn p=>by rw[aR.mp p];exact aaf t G),(λx h=>nomatch h),(λx h=>nomatch h),λg a c m P=>Rf z.2.1 H G z.2.2.2.2.2 a c P λj A k r s3 h1 h2 h3 h4 h5=>
  ⟨j,A,h1,k,_,s3,h2,Or.imp (Bx λv=>And.imp (congrArg outcomeOf) (jB (jB (jB (And.imp_left λd b o y _=>d b o y))))) (Bx λe=>Bx λC=>Bx λu=>And.imp (congrArg outcomeOf) (jB (jB (jB (jB λd b o y _=>d b o y))))) h3,
   (λ_ i x h=>by rw[H] at h;simp at h),(λq=>nomatch q),h4,h5⟩⟩
end Mine
end
section
open PySem PySem.W PyProof.Rows PySem.Challenge
namespace Mine.HD
noncomputable abbrev lw:=rw_xm0855_01
theorem ws0:sreFenced lw.row.prog.main=true:=by kernel_rfl
theorem ws1:((moduleNames lw.row.prog.main.body).isEmpty||lookedIntoSs (moduleNames lw.row.prog.main.body) lw.row.prog.main.body)=true:=by kernel_rfl
theorem ws2:namesResolve lw.row.prog=true:=by kernel_rfl
theorem ws3:(lw.row.prog.boundNames.all λn=>!worldNames.contains n)=true:=by kernel_rfl
theorem ws4:noRoadLSs {strict:=!(importedModules lw.row.prog.main.body).all cThrough.contains,foot:=none,bare:=(["vars","dir","locals"]:List Str).filter (readsOut lw.row.prog lw.row.prog.main.body)} lw.row.prog.main.body=true:=by kernel_rfl
theorem ws5:(namesMeet lw.row.prog lw.row.prog.main.body λ_ n=>attrL n)=true:=by kernel_rfl
theorem ws6:lw.row.prog.boundNames.contains lw.row.name=true:=by kernel_rfl
theorem ws7:(!startupNames.contains lw.row.name)=true:=by kernel_rfl
theorem ws8:decide (lw.foot<=(behindTheImports lw.prog).length)=true:=by kernel_rfl
theorem ws9:lw.footing.all footLine=true:=by kernel_rfl
theorem abC:noClassBlock lw.prog lw.footing=true:=by kernel_rfl
theorem aa4:noRoadLSs {strict:=true,foot:=some lw.bound',writes:=lw.writes,may:=lw.may} lw.footing=true:=by kernel_rfl
theorem abn:defStands lw.about lw.above=true:=by kernel_rfl
theorem abU:lw.namesIt=true:=by kernel_rfl
theorem abu:((["type","isinstance","issubclass","getattr","hasattr"]:List Str).all (λn=>lw.about !=[n]))=true:=by kernel_rfl
theorem aaW:(lw.bound'.all (λn=>!builtinNamed n||lw.about==[n] ||!lw.reads n))=true:=by kernel_rfl
theorem abH:(!lw.writes||(lw.prog.main.body.flatMap importedNames).all λn=>!lw.reads n)=true:=by kernel_rfl
theorem aa3:((lw.prog.main.body.flatMap importedNames).all λn=>!lw.reads n||(drawsOf n lw.prog.main.body).all λm=>m.2 !=("attrgetter":Str) &&m.2 !=("methodcaller":Str))=true:=by kernel_rfl
theorem abL:(namesMeet lw.prog lw.footing (λsc n=>(!(["type","isinstance","issubclass","getattr","hasattr"]:List Str).contains n||sc.names.lookup n==some .globalImplicit) &&(lw.may !=some n||sc.kind== .module||sc.names.lookup n==some .globalImplicit)))=true:=by kernel_rfl
theorem aao:lw.own.contains lw.name=true:=by kernel_rfl
theorem aa7:(lw.own.eraseDups.length==lw.own.length)=true:=by kernel_rfl
theorem aaQ:(lw.own.all (λn=>!builtinNamed n))=true:=by kernel_rfl
theorem aa2:(namesMeet lw.prog lw.above (λ_ n=>!lw.own.contains n))=true:=by kernel_rfl
theorem aaq:(namesMeet lw.prog lw.footing λsc n=>sc.kind== .module||sc.names.lookup n !=some .globalExplicit)=true:=by kernel_rfl
theorem ws:rw_xm0855_01.wellSaid=true:=by
 unfold OpenLaw.wellSaid OpenRow.wellSaid OpenRow.partSaid looksOpen
 iterate 40 (all_goals try with_reducible refine look_both ?_ ?_)
 all_goals first|with_reducible exact ws0|with_reducible exact ws1|with_reducible exact ws2|with_reducible exact ws3|with_reducible exact ws4|with_reducible exact ws5|with_reducible exact ws6|with_reducible exact ws7|with_reducible exact ws8|with_reducible exact ws9|with_reducible exact abC|with_reducible exact aa4|with_reducible exact abn|with_reducible exact abU|with_reducible exact abu|with_reducible exact aaW|with_reducible exact abH|with_reducible exact aa3|with_reducible exact abL|with_reducible exact aao|with_reducible exact aa7|with_reducible exact aaQ|with_reducible exact aa2|with_reducible exact aaq|(kernel_rfl)
end Mine.HD
theorem PySem.Challenge.cw_xm0855_01_holds : PySem.Challenge.rw_xm0855_01.Holds := by
 exact⟨Mine.HD.ws,row_said Mine.HD.ws,⟨[.list []],by decide+kernel,by decide+kernel⟩,Mine.UR⟩
end
