import PyProof.Rows.All
import PyProof.ExcBaseAll.Exception
import PyProof.ExcClass3
import PyProof.ExcInit
import PyProof.Rows.KernelRfl
import KE.IntTextText
import KE.KNest
import KE.KDictSum
import KE.KIntText
import KE.KTryDeep
import Wide.FinOn
import OpenK.AllK
import Wide.All
import Lean
import PySem.Challenge.RW_or0003_01
set_option genInjectivity false
set_option genSizeOf false
set_option Elab.async false
set_option backward.match.sparseCases false
set_option linter.all false
set_option tactic.hygienic false
set_option compiler.extract_closed false
set_option bootstrap.genMatcherCode false
set_option maxRecDepth 100000
set_option maxHeartbeats 4000000
namespace Mine.Tactic
open _root_ renaming Option.some->aa,List->ae,Nat->af,Nat.sub_add_cancel->ag,Option.none->ah,Bool.true->ai,List.append_assoc->aj,Int->aq,List.length_append->ar,Option->au,Option.some.inj->aw,List.length_map->az,PySem.wpAny_bind->aA,Nat.le_antisymm->aB,String->aC,Bool.false->aD,PySem.Value->aE,if_pos->aF,if_neg->aG,List.mem_cons_self->aH,decide_eq_true->aI,List.append_nil->aJ,List.mem_cons_of_mem->aK,List.mem_singleton->aL,PySem.Shared->aM,List.getElem?_eq_some_iff->aP,List.length_cons->aQ,List.getElem?_eq_getElem->aR,congrArg->aU,List.casesOn->aV,PySem.wpAny_pure->aW,decide_eq_false->aX,PySem.Str.ofString->aZ,List.getElem?_append_right->be,Nat.le_refl->bf,PySem.Addr->bh,List.length_singleton->bj,PySem.Expr->bk,PySem.wpAny->bp,PyProof.Rows.wpS_bind->bq,Bool.and_eq_true_iff->br,List.mem_cons->bw,PyProof.Rows.Keyed->bx,of_decide_eq_true->bC,Bool->bD,List.getElem?_map->bE,List.not_mem_nil->bF,List.mem_of_getElem?->bG,PyProof.Rows.SortSt->bH,PyProof.Rows.wpS_pure->bI,absurd->bJ,Option.map_eq_some_iff->bK,List.getElem?_append_left->bM,PySem.Heap.get?_push_of_some->bN,Nat.min_eq_left->bP,List.length_take->bR,PySem.wpAny_mono->bS,List.mem_map->bT,Nat.lt_of_le_of_ne->bW,Nat.sub_le->bY,Array->bZ,List.mem_append->b7,Bool.casesOn->b_,List.size_toArray->cb,List.pairwise_append->cf,List.length_drop->cj,List.forall_mem_cons->cv,List.all_eq_true->cy,Bool.and_eq_true->cB,List.drop_eq_getElem_cons->cD,List.drop_eq_nil_of_le->cF,PySem.Str->cI,Array.length_toList->cK,PySem.Around->cQ,List.length_nil->cR,Int.toNat_natCast->cU,Option.casesOn->cX,Nat.min_le_left->cZ,Nat.lt_of_le_of_lt->de,List.map_append->dh,PySem.Heap->dj,PySem.wpAny_holding->dk,PyProof.Rows.pendingOf->dn,Unit->dt,PySem.wpAny_standAt->dz,List.take_append_drop->dC,List.eq_nil_of_length_eq_zero->dD,List.mem_reverse->dE,PySem.Heap.get?_push_size->dF,Nat.le_trans->dI,List.pairwise_singleton->dJ,List.mem_iff_getElem?->dK,decide_eq_true_eq->dM,ForInStep->dR,List.getElem?_toArray->dX,beq_iff_eq->eh,Bool.not_eq_true'->el,PySem.Stmt->et,PySem.DictEntry->ew,List.mem_append_right->eA,PyProof.Rows.arrOf->eB,Array.toList_append->eE,List.nil_append->eF,Nat.le_add_right->eG,decide_eq_decide->eH,PySem.Params->eI,Prod.mk.inj->eK,PySem.Heap.get?_none_of_le->eL,Nat.le_succ->eM,Nat.zero_add->eQ,PySem.Sem->eR,List.getElem?_take_of_lt->eS,Bool.false_ne_true->eT,List.nodup_cons->eW,List.range'->eY,Nat.min_le_right->e9,List.length_eq_zero_iff->e_,PySem.World->fb,StateT->fh,List.map_cons->fj,beq_self_eq_true->fk,List.isEmpty_iff->fm,Array.getElem?_toList->ft,List.length->fu,Option.bind_eq_some_iff->fv,decide_eq_false_iff_not->fw,List.drop_drop->fA,List.cons.inj->fB,PySem.standAt->fC,PySem.Obj->fK,PySem.Expr.casesOn->fL,Nat.zero_le->fO,List.lookup_cons->fP,Ne.symm->fR,Nat.div_mul_le_self->fT,List.length_reverse->fU,PySem.W.boot_heap->fV,beq_eq_false_iff_ne->fW,Array.toList_push->fY,PyProof.Rows.wpS_forRange->f0,Nat.succ.inj->f_,Nat.add_sub_cancel_left->gi,PySem.Comprehension->gx,Nat.beq->gy,List.take_of_length_le->gA,List.drop_zero->gB,Nat.casesOn->gC,List.reverse_perm->gE,Nat.lt_or_ge->gN,Nat.lt_or_gt_of_ne->gO,PySem.Env->gP,PySem.Heap.SameBut->gQ,PySem.Value.ref->gR,PySem.wpAny_execs_cons->gS,List.mem_flatMap->gT,PyProof.Rows.reverseSlice'->gU,Array.toList_extract->gX,Bool.or_eq_false_iff->gY,Int.eq_ofNat_of_zero_le->h_,ForInStep.yield->ij,List.find?_cons->ik,List.reverse_append->ir,PySem.Value.casesOn->iu,List.mem_map_of_mem->iw,Nat.le_of_eq->iy,Nat.sub_self->iz,List.map_map->iA,PyProof.Rows.wpS_modify->iG,PySem.wpAny_rule->iH,Nat.add_assoc->iJ,PySem.wpAny_call_entry->iO,List.range'_succ->iP,of_decide_eq_false->iT,List.getElem?_drop->iU,PySem.Heap.get?_update_self->iV,List.pairwise_iff_getElem->i_,List.extract_eq_take_drop->ja,PySem.Builtin.Tuple.tupleHashOf->jb,Option.isNone_iff_eq_none->jc,Nat.add_comm->jm,PySem.Heap.lt_size->jn,PySem.sysModules->jo,PySem.assignEach->jq,PyProof.Rows.KeyOrd.kle_of_klt->jr,PySem.wpAny_truthy_bool->jt,PySem.wpAny_newObj_type->ju,PySem.wpAny_loadPart_at->jv,Option.isSome_map->jw,List.flatMap_cons->jx,List.all_cons->jz,Bool.true_and->jA,Nat.mul_le_mul_left->jE,Nat.add_le_add_left->jF,PySem.Operator->jI,Nat.max_eq_right->jJ,PySem.Challenge.rw_or0003_01->jK,PySem.holding->jL,or_false->jM,Nat.one_mul->jU,PyProof.Rows.elem'->jV,Nat.lt_of_lt_of_le->jZ,List.pairwise_cons->j1,Nat.ne_of_lt->j2,PySem.treeTable->j3,PySem.W.Fast.tw14364793385576792824->j4,PySem.W.Fast.te14364793385576792824->j5,List.findIdx?_cons->j6,Int.natCast_nonneg->j7,PyProof.Rows.KeyOrd.kle_refl->ke,List.foldl_cons->kh,Bool.eq_iff_iff->ki,List.take_nil->kj,ForInStep.casesOn->ku,List.flatten_cons->ky,Bool.eq_false_iff->kz,Nat.mul_le_mul_right->kB,List.mem_append_left->kC,PySem.Builtin.Slice.slicePlaces->kD,PySem.mainGlobals->kH,PySem.compareOp->kI,List.drop_left->kL,List.take_left->kM,Nat.le_max_right->kW,Nat.min_eq_right->kX,PySem.Builtin.Tuple.tupleExact->kY,List.drop_suffix->k7,List.flatten_append->k9,List.length_pos_iff->k_,PySem.wpAny_callSpecial?_slot->lp,Nat.lt_irrefl->ly,Or.elim->lz,PySem.NameKind.free->lA,PySem.codeAny->lB,PySem.swapsWithSole->lC,Array.size_push->lK,PySem.importedModules->lL,List.mem_filter->lM,List.contains_cons->lN,PyProof.Rows.failedOf->lR,List.length_eq_one_iff->lT,Prod.fst->lU,PySem.starEach->lV,List.take_append_of_le_length->lY,List.nodup_append->l4,List.pairwise_map->l5,List.pairwise_reverse->mh,List.set_append_right->mi,List.dropLast_concat_getLast->mj,List.getElem?_eq_none->ml,PyProof.Rows.signs_ofString->mq,PySem.W.emptyDict->mr,List.getElem?_concat_length->mu,Nat.succ_le_succ->mG,List.range->mH,List.mem_of_mem_take->mI,PySem.W.boot_drawn->mJ,List.getElem?_range'->mK,List.cons_append->mL,Array.toList_setIfInBounds->mR,PyProof.Rows.wpS_get->mX,PySem.excClassObj->mY,PySem.W.hideAll_get->mZ,PySem.W.ghostOf->m4,PySem.Heap.get?_update_ne->m7,Bool.or_eq_true_iff->m8,PySem.Heap.SameBut.update->m9,PyProof.Rows.markedEach_of_false->m_,List.map_congr_left->ng,PySem.wpAny_isSubtype_exc->nh,PySem.wpAny_specialOf->nv,PySem.Builtin.Slice.sliceAdjust->nx,List.getElem?_eq_none_iff->ny,PySem.wpAny_execs_nil->nz,Nat.le_of_lt->nO,Bool.false_eq_true->nP,PySem.W.boot_toks->nQ,decide_eq_true_iff->nR,Option.isSome_iff_exists->nS,PySem.F.args_tuple_add_2->nT,Int.ofNat_le->nU,PyProof.Rows.slot_tuple_getitem->nV,List.map_nil->nW,List.length_range'->nX,Bool.or_true->nY,List.getLastD_cons->nZ,Nat.add_le_add->ow,PySem.Value.bool->oy,bne_iff_ne->oz,List.getElem?_cons_succ->oC,PySem.F.entry_tuple_add->oE,List.ext_getElem?->oJ,PySem.F.slot_tuple_hash->oK,PySem.wpAny_sequenceKey->oL,Nat.add_mul->oQ,DecidableEq->oR,List.flatten_singleton->oS,PySem.Heap.ExtBut->oU,PySem.F.slot_tuple_add->oV,PySem.wpAny_field->oW,PySem.W.frees->oY,Nat.lt_succ_self->o7,Nat.le_of_not_lt->o8,List.perm_middle->o9,List.getElem_mem->o_,List.pairwise_of_forall_mem_list->pb,PySem.bindArgs->pd,List.take_length->pe,Nat.succ_ne_zero->pf,PyProof.Rows.Top->pg,Nat.eq_of_beq_eq_true->pI,Nat.le_of_ble_eq_true->pJ,Nat.sub_eq_zero_of_le->pM,List.contains_iff_mem->pN,List.take_eq_take_min->pO,PySem.Setting->pP,Array.toList_eraseIdxIfInBounds->pQ,Nat.not_lt_zero->p_,Nat.zero_mul->qa,PySem.CmpOp->qb,List.mem_of_mem_drop->qc,Array.toList_reverse->qd,Nat.max_eq_left->qe,PyProof.Rows.seqObj->qg,List.getElem?_set_ne->qh,Option.map->qi,List.all_map->qj,PySem.StrLaws.occBody->qk,List.forIn_cons->ql,PySem.letOwnedTupleGo->qm,PySem.wpAny_letOwnedTupleGo_listiter->qn,PySem.Heap.HeldW->qo,PySem.wpAny_loadName_local->qq,PySem.ExcBaseFacts->qt,PyProof.Rows.strKind->qu,List.range_eq_range'->qv,List.filter_eq_self->qD,List.take_succ_cons->qE,PyProof.Rows.wpS_lift->qX,List.take_take->qY,if_false->qZ,PySem.PyData.keyHash->q0,PySem.OsState->q8,PySem.NameKind->q9,PyProof.Rows.wpAny_operate'->q_,PyProof.Rows.wpAny_release'->rf,PySem.Heap.size_push->rh,PySem.callerA->rj,List.not_lt->rD,PySem.wpAny_of_eq->rE,PySem.evalThenUse->rF,PySem.W.Fast.te15667345088766844465->rP,PySem.W.Fast.te11892475500146522536->rQ,PySem.W.Fast.te10110043849684766642->rR,PySem.W.Fast.te14374325043358763698->rS,PySem.slot_dict_contains->rT,PySem.pyIter->rU,PySem.backTo->rV,PySem.assign->rW,Option.any_eq_true->rX,PySem.wpAny_newList->r8,PySem.W.Fast.te4187177175401517315->r9,PySem.NameKind.cell->r_,List.drop_nil->sd,PySem.Builtin.Tuple.tupleItemsOf->se,Array.mem_def->sf,Bool.and_true->sh,Array.getElem?_eq_some_iff->si,PySem.strKind->sj,Nat.le_of_lt_succ->sG,List.take_sublist->sH,Nat.lt_succ_of_lt->sI,bne_self_eq_false->sJ,PySem.slot_dict_getitem->sL,List.mem_range'_1->sM,PyProof.Rows.setPending->sU,List.getLast?_eq_getElem?->sV,PySem.Obj.mapSeq->sW,List.findIdx?_eq_none_iff->sZ,Int.not_lt->s8,List.getElem?_zip_eq_some->s9,PySem.wpAny_call->s_,PySem.getItem->tE,Nat.add_zero->t7,Nat.sub_zero->t8,PyProof.Rows.KeyOrd.kle_trans->t9,PySem.concat_meets->t_,PySem.noFill_tuple_add->ua,PySem.clipAt->ub,Int.max_eq_right->uc,Nat.lt_trans->ud,PySem.wpAny_lookBehind->ue,PySem.pastItsLine_dict->uf,Nat.succ_ne_self->ug,PySem.W.hideAll_none->uh,List.filter_cons_of_pos->ui,List.filter_cons_of_neg->uj,List.suffix_iff_eq_drop->um,List.Perm.trans->uO,List.length_set->uP,Decidable->uQ,PyProof.Rows.get?_update_seq->uR,Pure.pure->uS,LawfulBEq->uT,PySem.noteFrame->uU,List.of_mem_zip->uV,PySem.Flow.next->uW,PySem.assignAll->uX,beq_false_of_ne->uY,List.getElem?_set_self->vg,Nat.le_of_succ_le_succ->vh,PySem.Operator.casesOn->vi,PySem.codeAny_compStart_list->vj,PyProof.Rows.wpAt_bind->vk,PySem.Within.cons->vl,List.drop_take->vU,List.Pairwise.sublist->vV,ForInStep.done->vW,PySem.Value.type.inj->vX,PySem.intKind->vY,List.findIdx?_toArray->vZ,PyProof.Rows.IntsAre->v5,PySem.W.findIn->v7,PySem.UnaryOp.casesOn->v8,PySem.wpAny_loadPart->v9,PySem.Result->v_,PySem.wpAny_bindName->wa,PyProof.Rows.iadd_int->wb,Bool.not_false->wc,List.length_filter_le->we,Char.toNat->wX,PyProof.Rows.SortSt.mk'->wY,List.reverse_reverse->wZ,Nat.add_le_add_right->w4,PySem.W.namesBound->w5,PySem.GenState->w6,PySem.typeIs_str->w7,PySem.wpAny_letTemporaryGo->w8,PySem.BoolOp.casesOn->w9,PySem.Calls.evalArgs_plain->w',PySem.lookup_relabel_local->w_,PySem.arm_assign_Attribute->xa,List.map_eq_cons_iff->xb,List.getLastD_concat->xc,Nat.pow_le_pow_right->xd,Nat.mul_assoc->xl,PySem.Builtin->xm,PySem.seq_tuple_add->xn,List.any_cons->xo,Bool.false_or->xq,PySem.W.Looks.of_pure->xr,PySem.methodCallPos->xt,PySem.comprehension->xu,PySem.arm_eval_Name->xv,PySem.swappedStores->xw,Prod.mk.injEq->xx,Nat.add_sub_cancel'->xy,List.append_toArray->xz,PySem.Obj.isFreed_of_dict->xA,List.map_eq_nil_iff->xB,Nat.mul_comm->ya,Nat.lt_of_lt_of_eq->yb,Nat.le_total->yc,Bool.not_eq_false'->yd,Nat.eq_zero_or_pos->ye,PySem.W.staticsOk->yf,List.cons->yg,PySem.wpAny_tupleItemsOf->yh,Array.forIn_toList->yi,List.any_map->yj,PySem.truthy->yk,Int.lt_of_le_of_lt->yl,Int.zero_add->ym,PySem.wpAny_typeOf->yn,PySem.pyNext->yo,PySem.Heap.FlyingW->yp,PySem.arm_eval_Subscript->yq,PySem.arm_isTrue_Compare->yr,PySem.codeAny_mono->yt,And.intro->yu,PySem.Obj.data_mapFields->yv,PySem.Code.quiet_builtin->yw,PySem.W.topStub->yT,PySem.dictGet->yU,PySem.dictSet->yV,PySem.W.takerIn->yW,PySem.W.hideAll->yX,Nat.le_succ_of_le->yY,List.take_add_one->yZ,List.getElem?_inj->y3,List.push_toArray->y4,List.length_range->y5,List.filter_congr->y6,not_false_eq_true->y7,PySem.W.plainGet_of->zh,PySem.W.looks_clsIn->zj,PySem.sizeLine_eq->zk,PySem.W.callWith_of->zm,PySem.keywordEach->zo,Int.casesOn->zp,Nat.lt_of_not_le->Ac,List.reverse_nil->Ad,PySem.W.topFrame->Ae,PySem.W.gensDone->Af,PySem.W.laidKept->Ag,List.any_toArray->Ah,List.map_reverse->Ai,PySem.compTurn->Aj,and_true->Al,List.drop_length->Am,List.any_eq_true->An,Nat.le_min->BR,Nat.le_add_left->BS,PySem.reduceHash->BU,Int.not_le->BV,PySem.closureFor->BW,PySem.Value.none->BX,PySem.cameBackBy->BY,List.find?->B0,Char.ofNat->B1,Nat.ble_eq->B2,PySem.nsFind->B3,Bool.and_assoc->CO,List.replicate->CP,Bool.and_false->CQ,List.mem_range->CR,List.nodup_nil->CS,Bool.or_false->DV,Int.toNat_sub->DW,List.drop_one->DX,List.map_set->Ge,Nat.min_self->Gf,Prod.snd->Gg,congrFun->Gh,Prod.ext->Gi,Nat.succ_pos->Gj,Int.le_trans->Gk,List.extract->Gl,Int.ofNat_lt->Go,Nat.beq_refl->Gp,decide_false->Gq,Nat.pow_succ->Gr,Bool.true_or->Gs,Nat.succ_mul->Gu,Nat.ble->HY,List.length->Wb
section
set_option compiler.extract_closed false
section
open Lean
def U9 (r:aC):Name:=match r.front with|'.'=>(r.drop 1).toName|c=>if r=="" then `null else `Lean.Parser++if c.isUpper then r.toName else .str `Tactic r
def nA (k:aC) (l:ae Syntax):Syntax:=.node .none (U9 k) l.toArray
def UV (a:ae Syntax):ae aC->ae Syntax->Syntax
 |[],st=>st.head!
 |w::l,st=>
  let u:=Syntax.atom .none "("
  let sq (l:ae Syntax):=nA "tacticSeq" [nA "tacticSeq1Indented" [nA "" (l.intersperse u)]]
  let r:=(w.drop 1).toString
  let n:=r.toNat?.getD st.length
  UV a l<|match w.front with
  |'_'=>u::st
  |'$'=>a[n]!::st
  |'`'=>mkIdent r.toName::st
  |'='=>nA "exact" [u,mkIdent r.toName]::st
  |'@'=>nA "apply" [u,mkIdent r.toName]::st
  |'?'=>nA "show" [u,.node .none `«term_=_» #[nA "Term.app" [mkIdent r.toName,nA "" [nA "Term.ellipsis" [u]]],u,nA "Term.hole" [u]]]::st
  |'#'=>Syntax.mkNumLit r::st
  |';'=>nA "paren" [u,sq (st.take n).reverse,u]::st.drop n
  |'|'=>nA "first" [u,nA "" ((st.take n).reverse.map λt=>nA ".group" [u,sq [t]])]::st.drop n
  |'~'=>nA "withReducible" [u,sq (st.take 1)]::st.drop 1
  |'&'=>nA r [u,sq (st.take 1)]::st.drop 1
  |c=>let n:=c.toNat-48;nA r (st.take n).reverse::st.drop n
def mx (a:ae Syntax) (s:aC):Syntax:=UV a (s.splitOn " ") a.reverse
end
variable {I:Sort u} {a b:I} {C:I->Prop}
@[elab_as_elim] theorem dq (h:a=b) (x:C b):C a:=h▸x
@[elab_as_elim] theorem dH (h:b=a) (x:C b):C a:=h▸x
theorem U' (h:a=b):a=b:=h
theorem Ub {I:Type u} {a:I} {b:Prop} (h:a∈[]):b:=(bF h).elim
theorem U_ {n:af} {b:Prop} (h:n<0):b:=bJ h (p_ _)
end
section
inductive y8|a (i:af)|n (k:af)|p (x y:y8)|l (k:af) (x:y8)|r (x:y8) (k:af)
noncomputable def y8.den (v:ae af):y8->af
 |.a i=>v.getD i 0
 |.n k=>k
 |.p x y=>x.den v+y.den v
 |.l k x=>k*x.den v
 |.r x k=>x.den v*k
noncomputable def wg:ae af->ae af->ae af
 |[],m=>m
 |x::l,[]=>x::l
 |x::l,y::m=>(x+y)::wg l m
noncomputable def jd:ae af->ae af->af
 |[],_=>0
 |_::_,[]=>0
 |x::l,y::v=>x*y+jd l v
noncomputable def R3:af->ae af
 |0=>[1]
 |i+1=>0::R3 i
noncomputable def y8.lin:y8->ae af
 |.a i=>R3 (i+1)
 |.n k=>[k]
 |.p x y=>wg x.lin y.lin
 |.l k x=>x.lin.map (k*·)
 |.r x k=>x.lin.map (k*·)
noncomputable def oA:af->af->y8×af
 |0,n=>(.n 0,n)
 |f+1,n=>
  bif HY (n%32) 11 then(.a (n%32),n/32)else
  bif HY 16 (n%32)then(.n (n%32-16),n/32)else
  bif gy (n%32) 12 then(.p (oA f (n/32)).1 (oA f (oA f (n/32)).2).1,(oA f (oA f (n/32)).2).2)else
  bif gy (n%32) 13 then(.l (n/32%1024) (oA f (n/32/1024)).1,(oA f (n/32/1024)).2)else
  bif gy (n%32) 14 then(.r (oA f (n/32/1024)).1 (n/32%1024),(oA f (n/32/1024)).2)else
  (.n (n/32%33554432),n/32/33554432)
noncomputable def Va (k x y:af):Prop:=
 bif gy k 3 then x<=y else
 bif gy k 4 then x<y else
 bif gy k 5 then x=y else
 bif gy k 6 then x=y else
 bif gy k 7 then¬x<=y else¬x<y
noncomputable def HZ (v:ae af):af->af->Prop
 |0,_=>True
 |f+1,n=>
  bif gy (n%32) 0 then False else
  bif gy (n%32) 1 then(oA 99 (n/32768)).1.den v<=(oA 99 (oA 99 (n/32768)).2).1.den v else
  bif gy (n%32) 2 then(oA 99 (n/32768)).1.den v<(oA 99 (oA 99 (n/32768)).2).1.den v else
  Va (n%32) ((oA 99 (n/32768)).1.den v) ((oA 99 (oA 99 (n/32768)).2).1.den v)->HZ v f (oA 99 (oA 99 (n/32768)).2).2
noncomputable def Oy:ae af->ae af->bD
 |_,[]=>ai
 |[],y::m=>gy y 0&&Oy [] m
 |x::l,y::m=>HY y x&&Oy l m
noncomputable def Oz:ae af->ae af->bD
 |x::l,y::m=>Nat.blt y x&&Oy l m
 |x::_,[]=>Nat.blt 0 x
 |[],_=>aD
noncomputable def mv (k:af) (A B:ae af):ae af:=wg (A.map (k*·)) B
noncomputable def xC:af->af->ae af->ae af->bD
 |0,_,_,_=>ai
 |f+1,n,L,R=>
  let x:=oA 99 (n/32768)
  let y:=oA 99 x.2
  let m:=n/32%1024
  bif gy (n%32) 0 then Oz L R else
  bif gy (n%32) 1 then Oz (mv m (wg [1] y.1.lin) L) (mv m x.1.lin R)else
  bif gy (n%32) 2 then Oz (mv m y.1.lin L) (mv m x.1.lin R)else
  bif gy (n%32) 3 then xC f y.2 (mv m x.1.lin L) (mv m y.1.lin R)else
  bif gy (n%32) 4 then xC f y.2 (mv m (wg [1] x.1.lin) L) (mv m y.1.lin R)else
  bif gy (n%32) 5 then xC f y.2 (mv m x.1.lin L) (mv m y.1.lin R)else
  bif gy (n%32) 6 then xC f y.2 (mv m y.1.lin L) (mv m x.1.lin R)else
  bif gy (n%32) 7 then xC f y.2 (mv m (wg [1] y.1.lin) L) (mv m x.1.lin R)else
  xC f y.2 (mv m y.1.lin L) (mv m x.1.lin R)
theorem uo (w:ae af):∀l m:ae af,jd (wg l m) w=jd l w+jd m w:=by
 induction w with
 |nil=>intro l m;cases l<;>cases m<;>rfl
 |cons z w a=>
  intro l m;cases l with
  |nil=>exact(eQ _).symm
  |cons x l=>cases m with|nil=>rfl|cons y m=>show(x+y)*z+jd (wg l m) w=x*z+jd l w+(y*z+jd m w);rw[a,oQ];exact Nat.add_add_add_comm _ _ _ _
theorem wh (k:af) (w:ae af):∀l:ae af,jd (l.map (k*·)) w=k*jd l w:=by
 induction w with
 |nil=>intro l;cases l<;>rfl
 |cons z w a=>intro l;cases l with|nil=>rfl|cons x l=>show k*x*z+jd (l.map (k*·)) w=k*(x*z+jd l w);rw[a,Nat.mul_add,xl]
theorem L':∀(i:af) (w:ae af),jd (R3 i) w=w.getD i 0:=by
 intro i;induction i with
 |zero=>intro w;cases w with|nil=>rfl|cons z w=>exact(t7 _).trans (jU _)
 |succ i a=>intro w;cases w with|nil=>rfl|cons z w=>exact((aU (0*z+·) (a w)).trans (by show 0*z+_=_;rw[qa,eQ];rfl))
theorem Ao (v:ae af) (t:y8):jd t.lin (1::v)=t.den v:=by induction t with|a i=>exact L' (i+1) _|n k=>exact(t7 _).trans (Nat.mul_one _)|p x y h g=>exact(uo _ _ _).trans (h▸g▸rfl)|l k x h=>exact(wh _ _ _).trans (h▸rfl)|r x k h=>exact(wh _ _ _).trans ((h▸rfl:_=k*x.den v).trans (ya _ _))
theorem R4:∀(w l m:ae af),Oy l m=ai->jd m w<=jd l w:=by
 intro w;induction w with
 |nil=>intro l m d;cases m<;>exact fO _
 |cons z w c=>
  intro l m h;cases m with
  |nil=>exact fO _
  |cons y m=>cases l with|nil=>obtain⟨a,b⟩:=br.mp h;show y*z+jd m w<=0;rw[pI a,qa,eQ];exact dI (c [] m b) (by cases w<;>exact bf _)|cons x l=>obtain⟨a,b⟩:=br.mp h;exact ow (kB _ (pJ a)) (c l m b)
theorem Ej (v l m:ae af) (h:Oz l m=ai):¬jd l (1::v)<=jd m (1::v):=by
 refine Nat.not_le.mpr ?_;cases l with
 |nil=>exact nomatch h
 |cons x l=>cases m with|nil=>exact jZ (yb (pJ h) (Nat.mul_one x).symm) (eG _ _)|cons y m=>obtain⟨a,b⟩:=br.mp h;exact Nat.add_lt_add_of_lt_of_le ((Nat.mul_lt_mul_right Nat.one_pos).mpr (pJ a)) (R4 v l m b)
variable {a b c d e f g i k j l:af} {v:ae af} {x y:y8}
theorem ph {A B L R w:ae af} (h:jd A w<=jd B w) (g:jd L w<=jd R w):jd (mv k A L) w<=jd (mv k B R) w:=by unfold mv;rw[uo,uo,wh,wh];exact ow (jE k h) g
theorem xD (h:x.den v<=y.den v):jd x.lin (1::v)<=jd y.lin (1::v):=by rw[Ao,Ao];exact h
theorem Ek (h:x.den v<y.den v):jd (wg [1] x.lin) (1::v)<=jd y.lin (1::v):=by rw[uo,Ao,Ao];exact yb (de (iy (show 1*1+0+x.den v=x.den v+1 from jm _ _)) (o7 _)) (by rfl)|>λq=>(sG (jZ q (mG h)))
theorem bb {b x y:bD} {A C:Prop} (h:(bif b then x else y)=ai) (t:x=ai->A) (e:y=ai->C):bif b then A else C:=by cases b with|true=>exact t h|false=>exact e h
theorem bc {b x y:bD} {P Q G:Prop} (h:(bif b then x else y)=ai) (t:x=ai->P->G) (e:y=ai->Q->G):(bif b then P else Q)->G:=by cases b with|true=>exact t h|false=>exact e h
theorem kJ (v:ae af) (f:af):∀(n:af) (L R:ae af),xC f n L R=ai->jd L (1::v)<=jd R (1::v)->HZ v f n:=by
 induction f with
 |zero=>exactλb b b b b=>trivial
 |succ f a=>
  exactλn L R h g=>bb h (λh=>Ej v L R h g) λh=>
   bb h (λh=>o8 λq=>Ej v _ _ h (ph (Ek q) g)) λh=>
   bb h (λh=>Ac λq=>Ej v _ _ h (ph (xD q) g)) λh=>
   bc h (λh q=>a _ _ _ h (ph (xD q) g)) λh=>
   bc h (λh q=>a _ _ _ h (ph (Ek q) g)) λh=>
   bc h (λh q=>a _ _ _ h (ph (xD (iy q)) g)) λh=>
   bc h (λh q=>a _ _ _ h (ph (xD (iy (Eq.symm q))) g)) λh=>
   bc h (λh q=>a _ _ _ h (ph (Ek (Ac q)) g)) λh q=>a _ _ _ h (ph (xD (o8 q)) g)
noncomputable def vm (n:af):bD:=xC 40 n [] []
noncomputable def vn (v:ae af) (n:af):Prop:=HZ v 40 n
theorem L0 n (h:vm n=ai):vn [] n:=kJ _ _ _ _ _ h (bf _)
theorem L1 (n:af) (h:vm n=ai):vn [a] n:=kJ _ _ _ _ _ h (bf _)
theorem L2 (n:af) (h:vm n=ai):vn [a,b] n:=kJ _ _ _ _ _ h (bf _)
theorem L3 (n:af) (h:vm n=ai):vn [a,b,c] n:=kJ _ _ _ _ _ h (bf _)
theorem L4 (n:af) (h:vm n=ai):vn [a,b,c,d] n:=kJ _ _ _ _ _ h (bf _)
theorem L5 (n:af) (h:vm n=ai):vn [a,b,c,d,e] n:=kJ _ _ _ _ _ h (bf _)
theorem L6 (n:af) (h:vm n=ai):vn [a,b,c,d,e,f] n:=kJ _ _ _ _ _ h (bf _)
theorem L7 (n:af) (h:vm n=ai):vn [a,b,c,d,e,f,g] n:=kJ _ _ _ _ _ h (bf _)
theorem L8 (n:af) (h:vm n=ai):vn [a,b,c,d,e,f,g,i] n:=kJ _ _ _ _ _ h (bf _)
theorem L9 (n:af) (h:vm n=ai):vn [a,b,c,d,e,f,g,i,j] n:=kJ _ _ _ _ _ h (bf _)
theorem L10 (n:af) (h:vm n=ai):vn [a,b,c,d,e,f,g,i,j,k] n:=kJ _ _ _ _ _ h (bf _)
theorem L11 (n:af) (h:vm n=ai):vn [a,b,c,d,e,f,g,i,j,k,l] n:=kJ _ _ _ _ _ h (bf _)
theorem L12 {m:af} (n:af) (h:vm n=ai):vn [a,b,c,d,e,f,g,i,j,k,l,m] n:=kJ _ _ _ _ _ h (bf _)
theorem d8 (a b:af):a<=a-b+b:=Nat.le_add_of_sub_le (bf _)
theorem UW {x:af} (h:0<c):x<x/c*c+c:=Nat.lt_div_mul_add h
end
local macro_rules | `(#[$a,*]) => do
  let a := a.getElems.toList.map (·.raw)
  let tb := "WV5Mr23Y BqvjZ}b~&p'dL>&G BqvjZ}b~!l1;`%Ak QWmI J:FR`<rdU{N) {r}u2Y^bXp~|3d:,$x rU3_Bo3FjH* 4k2RAU6?,) 4fR.zFMWkG WV5M1?~c HGks`yEc BqvjZ}b~!+?9D&VC CFIPvkA`jIs6(mbI AvE%*`ta'~<aB4{l.ag 2%VSjQLO:WmOoS WV5Mr23' JCVW*u:<qu4ia*u8_ou BqvjZ}b~&p'dL>&H SZff7!M='*k 2lo_Lh8T{E_ 7Xh3Lp 3DZr9DUurAW!W6;,DdZ(lM Nc*pA65!%Rhm8)zQT0V' W!X59%$Q8OA't~k 1dnG'_e!t~KA^4 AnJ&p5ojHMp' AnHW'5Z;+.e) J:FRpkoJIiu6 `y>Df}1LnFk 4fR.v%+h!M 1_gDL.f!D.mWfJs~|y=sdrtxN8 CQ~_0AkH(d:}CIfnvWym_'% 2zjBzrtSr%*ur^>MB$DV? JCVW*u:<lq=y:L(n2_} CFIQ9~w|8'_dOTM0 288:7{sv*6coS(a 2o$C&d%.A'quSx) 7XJ%+S'AJP?lT J:FR{=pXn?=U I_3maCwjVUtu 4fR<a>!3Sm 4fR<a>!3Sn HGk;pevK 13_<9i*u:FY'Cyhj^UE~iQ~SMm,u2 41|5k%.`wG<'?%jCBR>QkJJ%=9c 2(2Bjb7`ADJ!nwEfBoRYH 7ApwH^DgTlK5A<r2O..K 1?s)rCl?dv|lSO)Q(qG >2Zq{B:A&A~OF)Zuy BqvjZ}b~!iscjk)x 1myM3y6hd3c~d83 1dnGyJ0<}Q.D9g ~^q+(vLz=cW%k? 1Zt8pUuv??Vuss J:Fd~Y'q:=7b J:Fd~Y':79<P J:FRpkoJIiu7 rU3_C$s_^(, 6;C;HA^>Jc 4fR<a&JFQ~ 2KvgPx2P0& GFnr+x!Y HGksu|jQ 7Xh3Lo A$G&2 1yrfE,YX`ouHaiig+R`6<wouq 1OIaKbr_0grH>3l}Oka 1Np%nm1VI9S|QvGz<M0 1OfBF9br{jaH68asa?K 1os8yhxTJf+zA{;s:gu AzApeGP3kozS8EG}E2a 2l`6`,1`D'Lt'84AR EJU.uW)R`<{fd91C_ EJU.uW)R`<{fd91C` BqvjZ}b~!k&41N|> BqvjZ}b~!iscjk)w 6g$}:+S1gl?pBp9y W!XPJ$qWsLO*}~o Bv5'fsSujpjI= BGAKe*SZyyQTS 7XJ%+S'AJP?lS 9^r9SO2gmsGi J:Fd~Y'.g0*9 J:FRpkoI2QkQ 1M}^{|Y*?0vW 6;C;HA^>Jd 4fR<a>!3SG 4k2RAUT~yG =U:eC'Kdqm 4fR.ru91np 115KYLY} WV5Mr23Z GFnr.ThC U;4cBp^' 1cL!;tW 3$b3y+ A3.+M ?'WAG(q}1LqIT75|hemFKNJGR`h%PSo c08DEY(!IV.Q'5r`Wls%oWs{mrf4tr 13_<C%raDAB^bit0o?UXHDZfuecl= 1p%fnK(wp%4A}a6DO{ith;KNWIcX< Rcj(7F&tkFZ^^IihzCbspqVd<BbK 4189Zak!_9TtIz{DHYoDZ&G9$^m 1yrgHwK:k}8BeucT+bzJR!e:, 1yrfG3|ZS!1&S3Im~$5pU~Eiq 4V(7HcRKoy_$VyfNSYEEcLSQ CQ~^*Us>w71RCDi0g!5'JkC 1I`&X$XghbB_CY3MV6:7x>* VmBG6%8rhdW%cV!Hv%MkBB 2u:u{Ze:}&kO}}MeE~<5o }+JR7Wirbg}sjjZtA^zNk }+JR7WjENyFz^,+oG2JwC 7ApwH^DgTlK5cuMjKO)y 7ApwH^Dg9yIjmhOl2SNQ 7eWp}zFZ'$&buQ%:!`h^ e(M2c.L*BI&Kj8Mp;Hb 1OK,Vy^O3>gpu}i,Fa? AxbZ~N)u_&!pLVf)=J+ zMXj'v,Yz`eHy^m_1ZU ze|N~2$=R}r'eeJA0+) 1w~B`4ZZ<3{eKsG)Mq Q|'RWND1gT4eRzcE8W {r}t~$`SvW'g4B7dLc 1qNA})be8E1_w2+qLs 1qNB0M6*PbDj;n4z0W 4NID=Nd'V27lAQO'5_ S)Jgqy6bTg3mr70!z% 1w~B<$K&g56FSv7u%{ 9HrU(vtoe{D)zGy!q D,ABJb.:>mTV+sRQ; D,ABJb.:>pAKE!dy? 1D;ounv%!fie1di6 BqvjZ}b~!kgJ6*,L BqvjZ}b~!i>Ne0`S 1D;ounv%!FhsRz8N B>9{{:'r8(e&U1N, B>9{{:'r8(e&U1N+ 1D;ounv%!GQ9B9kI BqvjZ}b~!k&41N|= 'fm?%jRLqQt<P|h 1oBC4N9$Qd>$mQm W!X5y:NR5{5^G(k XA$OJRmZ|Mtsjmo W!X5y))0KTl9{{C W!X5Wh`(MyWd;U2 W!XPJ$qWsLPZ85( 1eC,B6D'<~N$dO 2%VSawH=gdb&q2 1dnHm4rZvTCdXY 1dnGyJ0<}Q.D9h 4_ev'V&|Dt_R&G 1k{Y!+<bW<uSu~ HIxm=(8F|=NihO neb5g>SVf+etIz g}kO:VDNY0:47W ~^q+(vLzyeS23u F7zMC9N8!Q;!x BbIt((eXprhwq E:=sZMH*lrDJe IeMo3TcDZms!; BQ>8yp+jhTcB} 3)?MHyzNy=*z_ J:Fdt5$qTnEt A<R'=}p2099Q 9^r9SO2gk}Z' 9^r9<*j5d,b2 Ak{;Z7},rWdZ 1LRyD`+;Xcms J:FXpOJ'YpLQ J:FR`<r?rHz= J:FR{=pXn?>8 J:FR`<r^IQ)6 J:FRpkoJIitS GB7_fA^K$M<_ 1`gd7ew?yr+A I_3maCwj}9f: 1`gd7ew?7;|_ `y>Dix|TUxJ |WNBDVr08G} rU3l'qQ`V{+ SX:h9n5zg6G 2lo_LecDhkC `y>Dk89j.vs rU3_Bo3FjH4 9DFczat35) 4k2RAUVtem 4k2RAUVte_ 4fR.v%+hzi 2Wy}$A5m2W 61&v9+{P} b*$mKvIz' HGks|T`G WV5Mr23( GFnr:~Ni HGks}~zm JJZV`cfS WV5M1?~+ H!xN|t`O HHe<Hwfi qy(rnC? lM<c0Bm GL}N$".splitOn " "
  let h := a.headD .missing
  let k := h.isNatLit?
  if k == some 0 then return mx [] "_ 0 1optConfig 2decide &Term.byTactic"
  match h.isStrLit? <|> k.bind (tb[· - 1]?) with
  | none => Lean.Macro.throwUnsupported
  | some s =>
    let al := "0123456789ABCDEFGHIJKLMNOPQRSTUVWXYZabcdefghijklmnopqrstuvwxyz!$%&'()*+,.:;<=>?^_`{|}~".toList
    let n := s.toList.foldl (fun n c => n * 86 + al.idxOf c) 0
    let b := a.tail
    let m := b.length
    let r s := String.join (List.replicate m s)
    let e := mx b (s!"_ ` 1.hygieneInfo 2Term.hygienicLParen `L{n / 2 % 16} #{n / 32} `rfl 2 2Term.app _ {r "_ 1Term.hole _ "}_ 1Term.hole{r " 3Term.arrow"} 1 _ 5Term.typeAscription" ++ if m == 0 then "" else (List.range m).foldl (s!"{·} ${·}") "" ++ s!" {m} 2Term.app")
    return if n % 2 == 1 then mx [e] "_ $0 2exact &Term.byTactic" else e
section
variable {X Y Z U V W:Sort _} {P:Prop} {A B C D E:X->Prop} {F:X->Y->Z->U->Prop}
theorem ck (h:∃x,A x) (k:∀x,A x->P):P:=h.elim k
theorem dp {A B:Prop} (h:A/\B) (k:A->B->P):P:=h.elim k
theorem pR {A:X->Y->Prop} (h:∃x y,A x y) (k:∀x y,A x y->P):P:=h.elim λx h=>ck h (k x)
theorem ba (h:∃x,A x/\B x) (k:∀x,A x->B x->P):P:=h.elim λx h=>dp h (k x)
theorem R5 {A:Prop} (h:A/\∃x,B x) (k:A->∀x,B x->P):P:=h.elim λa h=>ck h (k a)
theorem iK {A B C:Prop} (h:A/\B/\C) (k:A->B->C->P):P:=h.elim λa h=>dp h (k a)
theorem yx {A:X->Y->Z->Prop} (h:∃x y z,A x y z) (k:∀x y z,A x y z->P):P:=h.elim λx h=>pR h (k x)
theorem d9 {A B:X->Y->Prop} (h:∃x y,A x y/\B x y) (k:∀x y,A x y->B x y->P):P:=h.elim λx h=>ba h (k x)
theorem OA {B:X->Y->Prop} (h:∃x,A x/\∃y,B x y) (k:∀x,A x->∀y,B x y->P):P:=h.elim λx h=>R5 h (k x)
theorem cV (h:∃x,A x/\B x/\C x) (k:∀x,A x->B x->C x->P):P:=h.elim λx h=>iK h (k x)
theorem uq {A:Prop} (h:A/\∃x,B x/\C x) (k:A->∀x,B x->C x->P):P:=h.elim λa h=>ba h (k a)
theorem lD {A B C D:Prop} (h:A/\B/\C/\D) (k:A->B->C->D->P):P:=h.elim λa h=>iK h (k a)
theorem Ap {A:X->Y->Z->U->Prop} (h:∃x y z u,A x y z u) (k:∀x y z u,A x y z u->P):P:=h.elim λx h=>yx h (k x)
theorem kN {A B:X->Y->Z->Prop} (h:∃x y z,A x y z/\B x y z) (k:∀x y z,A x y z->B x y z->P):P:=h.elim λx h=>d9 h (k x)
theorem eV {A B C:X->Y->Prop} (h:∃x y,A x y/\B x y/\C x y) (k:∀x y,A x y->B x y->C x y->P):P:=h.elim λx h=>cV h (k x)
theorem JB {B C:X->Y->Prop} (h:∃x,A x/\∃y,B x y/\C x y) (k:∀x,A x->∀y,B x y->C x y->P):P:=h.elim λx h=>uq h (k x)
theorem kn (h:∃x,A x/\B x/\C x/\D x) (k:∀x,A x->B x->C x->D x->P):P:=h.elim λx h=>lD h (k x)
theorem Aq {A B C D E:Prop} (h:A/\B/\C/\D/\E) (k:A->B->C->D->E->P):P:=h.elim λa h=>lD h (k a)
theorem G1 {A:X->Y->Z->U->V->Prop} (h:∃x y z u v,A x y z u v) (k:∀x y z u v,A x y z u v->P):P:=h.elim λx h=>Ap h (k x)
theorem B4 {A B:X->Y->Z->U->Prop} (h:∃x y z u,A x y z u/\B x y z u) (k:∀x y z u,A x y z u->B x y z u->P):P:=h.elim λx h=>kN h (k x)
theorem lq {A B C:X->Y->Z->Prop} (h:∃x y z,A x y z/\B x y z/\C x y z) (k:∀x y z,A x y z->B x y z->C x y z->P):P:=h.elim λx h=>eV h (k x)
theorem tj {A B C D:X->Y->Prop} (h:∃x y,A x y/\B x y/\C x y/\D x y) (k:∀x y,A x y->B x y->C x y->D x y->P):P:=h.elim λx h=>kn h (k x)
theorem G2 {B C:X->Y->Z->Prop} (h:∃x,A x/\∃y z,B x y z/\C x y z) (k:∀x,A x->∀y z,B x y z->C x y z->P):P:=h.elim λx h=>h.elim λa h=>d9 h (k x a)
theorem G4 {C D:X->Y->Prop} (h:∃x,A x/\B x/\∃y,C x y/\D x y) (k:∀x,A x->B x->∀y,C x y->D x y->P):P:=h.elim λx h=>h.elim λa h=>uq h (k x a)
theorem vo (h:∃x,A x/\B x/\C x/\D x/\E x) (k:∀x,A x->B x->C x->D x->E x->P):P:=h.elim λx h=>Aq h (k x)
theorem G5 {A B:Prop} (h:A/\B/\∃x,C x/\D x/\E x) (k:A->B->∀x,C x->D x->E x->P):P:=h.elim λa h=>h.elim λb h=>cV h (k a b)
theorem qF {A B C D E F:Prop} (h:A/\B/\C/\D/\E/\F) (k:A->B->C->D->E->F->P):P:=h.elim λa h=>Aq h (k a)
theorem zr {A B C D:X->Y->Z->Prop} (h:∃x y z,A x y z/\B x y z/\C x y z/\D x y z) (k:∀x y z,A x y z->B x y z->C x y z->D x y z->P):P:=h.elim λx h=>tj h (k x)
theorem El {A B:X->Y->Prop} {C D:X->Y->Z->Prop} (h:∃x y,A x y/\B x y/\∃z,C x y z/\D x y z) (k:∀x y,A x y->B x y->∀z,C x y z->D x y z->P):P:=h.elim λx h=>G4 h (k x)
theorem qG {A B C D E:X->Y->Prop} (h:∃x y,A x y/\B x y/\C x y/\D x y/\E x y) (k:∀x y,A x y->B x y->C x y->D x y->E x y->P):P:=h.elim λx h=>vo h (k x)
theorem Em {B:X->Y->Prop} {C D:X->Y->Z->Prop} (h:∃x,A x/\∃y,B x y/\∃z,C x y z/\D x y z) (k:∀x,A x->∀y,B x y->∀z,C x y z->D x y z->P):P:=h.elim λx h=>h.elim λa h=>JB h (k x a)
theorem CT {A B C:X->Y->Z->U->V->Prop} (h:∃x y z u v,A x y z u v/\B x y z u v/\C x y z u v) (k:∀x y z u v,A x y z u v->B x y z u v->C x y z u v->P):P:=h.elim λx h=>h.elim λy h=>lq h (k x y)
theorem lE {A B C D:X->Y->Z->U->Prop} (h:∃x y z u,A x y z u/\B x y z u/\C x y z u/\D x y z u) (k:∀x y z u,A x y z u->B x y z u->C x y z u->D x y z u->P):P:=h.elim λx h=>zr h (k x)
theorem wi {A B C D E F G:X->Y->Prop} (h:∃x y,A x y/\B x y/\C x y/\D x y/\E x y/\F x y/\G x y) (k:∀x y,A x y->B x y->C x y->D x y->E x y->F x y->G x y->P):P:=h.elim λx h=>h.elim λy h=>h.elim λa h=>qF h (k x y a)
theorem u8 {A B C D E:X->Y->Z->U->Prop} (h:∃x y z u,A x y z u/\B x y z u/\C x y z u/\D x y z u/\E x y z u/\F x y z u) (k:∀x y z u,A x y z u->B x y z u->C x y z u->D x y z u->E x y z u->F x y z u->P):P:=h.elim λx h=>h.elim λy h=>h.elim λz h=>h.elim λu h=>qF h (k x y z u)
theorem En {A B C D E F:X->Y->Z->U->V->Prop} (h:∃x y z u v,A x y z u v/\B x y z u v/\C x y z u v/\D x y z u v/\E x y z u v/\F x y z u v) (k:∀x y z u v,A x y z u v->B x y z u v->C x y z u v->D x y z u v->E x y z u v->F x y z u v->P):P:=h.elim λx h=>u8 h (k x)
theorem rY {T S:Sort _} {A B C D:X->Y->Z->U->V->W->T->S->Prop} (h:∃x y z u v w t s,A x y z u v w t s/\B x y z u v w t s/\C x y z u v w t s/\D x y z u v w t s) (k:∀x y z u v w t s,A x y z u v w t s->B x y z u v w t s->C x y z u v w t s->D x y z u v w t s->P):P:=h.elim λx h=>h.elim λy h=>h.elim λz h=>h.elim λu h=>lE h (k x y z u)
theorem xe {A B C D E G H:X->Y->Z->U->Prop} (h:∃x y z u,A x y z u/\B x y z u/\C x y z u/\D x y z u/\E x y z u/\F x y z u/\G x y z u/\H x y z u) (k:∀x y z u,A x y z u->B x y z u->C x y z u->D x y z u->E x y z u->F x y z u->G x y z u->H x y z u->P):P:=h.elim λx h=>h.elim λy h=>h.elim λz h=>h.elim λu h=>h.elim λa h=>h.elim λb h=>qF h (k x y z u a b)
theorem sp {A B C D E F G H I a:X->Y->Z->U->V->W->Prop} (h:∃x y z u v w,A x y z u v w/\B x y z u v w/\C x y z u v w/\D x y z u v w/\E x y z u v w/\F x y z u v w/\G x y z u v w/\H x y z u v w/\I x y z u v w/\a x y z u v w) (k:∀x y z u v w,A x y z u v w->B x y z u v w->C x y z u v w->D x y z u v w->E x y z u v w->F x y z u v w->G x y z u v w->H x y z u v w->I x y z u v w->a x y z u v w->P):P:=h.elim λx h=>h.elim λy h=>h.elim λz h=>h.elim λu h=>h.elim λv h=>h.elim λw h=>h.elim λb h=>h.elim λc h=>h.elim λd h=>h.elim λe h=>qF h (k x y z u v w b c d e)
theorem lg {A:X->Y->Prop} (x:X) (y:Y) (a:A x y):∃x y,A x y:=⟨x,y,a⟩
theorem aY (x:X) (a:A x) (b:B x):∃x,A x/\B x:=⟨x,a,b⟩
theorem dy {A B C:Prop} (a0:A) (a:B) (b:C):A/\B/\C:=⟨a0,a,b⟩
theorem DY {A:X->Y->Z->Prop} (x:X) (y:Y) (z:Z) (a:A x y z):∃x y z,A x y z:=⟨x,lg y z a⟩
theorem dY {A B:X->Y->Prop} (x:X) (y:Y) (a:A x y) (b:B x y):∃x y,A x y/\B x y:=⟨x,aY y a b⟩
theorem dS (x:X) (a:A x) (b:B x) (c:C x):∃x,A x/\B x/\C x:=⟨x,dy a b c⟩
theorem wj {A:Prop} (a0:A) (x:X) (a:B x) (b:C x):A/\∃x,B x/\C x:=⟨a0,aY x a b⟩
theorem Ar {A B:Prop} (a0:A) (a:B) (x:X) (b:C x):A/\B/\∃x,C x:=⟨a0,a,x,b⟩
theorem jB {A B C D:Prop} (a0:A) (a:B) (b:C) (c:D):A/\B/\C/\D:=⟨a0,dy a b c⟩
theorem mM {A B:X->Y->Z->Prop} (x:X) (y:Y) (z:Z) (a:A x y z) (b:B x y z):∃x y z,A x y z/\B x y z:=⟨x,dY y z a b⟩
theorem fD {A B C:X->Y->Prop} (x:X) (y:Y) (a:A x y) (b:B x y) (c:C x y):∃x y,A x y/\B x y/\C x y:=⟨x,dS y a b c⟩
theorem tF {B C:X->Y->Prop} (x:X) (a:A x) (y:Y) (b:B x y) (c:C x y):∃x,A x/\∃y,B x y/\C x y:=⟨x,wj a y b c⟩
theorem As {C:X->Y->Prop} (x:X) (a:A x) (b:B x) (y:Y) (c:C x y):∃x,A x/\B x/\∃y,C x y:=⟨x,Ar a b y c⟩
theorem kO (x:X) (a:A x) (b:B x) (c:C x) (d:D x):∃x,A x/\B x/\C x/\D x:=⟨x,jB a b c d⟩
theorem Au {A B C D E:Prop} (a0:A) (a:B) (b:C) (c:D) (d:E):A/\B/\C/\D/\E:=⟨a0,jB a b c d⟩
theorem l7 {A B C:X->Y->Z->Prop} (x:X) (y:Y) (z:Z) (a:A x y z) (b:B x y z) (c:C x y z):∃x y z,A x y z/\B x y z/\C x y z:=⟨x,fD y z a b c⟩
theorem qH {A B C D:X->Y->Prop} (x:X) (y:Y) (a:A x y) (b:B x y) (c:C x y) (d:D x y):∃x y,A x y/\B x y/\C x y/\D x y:=⟨x,kO y a b c d⟩
theorem qI (x:X) (a:A x) (b:B x) (c:C x) (d:D x) (e:E x):∃x,A x/\B x/\C x/\D x/\E x:=⟨x,Au a b c d e⟩
theorem tG {A B C D:X->Y->Z->Prop} (x:X) (y:Y) (z:Z) (a:A x y z) (b:B x y z) (c:C x y z) (d:D x y z):∃x y z,A x y z/\B x y z/\C x y z/\D x y z:=⟨x,qH y z a b c d⟩
theorem qJ {A B C D E:X->Y->Prop} (x:X) (y:Y) (a:A x y) (b:B x y) (c:C x y) (d:D x y) (e:E x y):∃x y,A x y/\B x y/\C x y/\D x y/\E x y:=⟨x,qI y a b c d e⟩
theorem zt {F:X->Prop} (x:X) (a:A x) (b:B x) (c:C x) (d:D x) (e:E x) (f:F x):∃x,A x/\B x/\C x/\D x/\E x/\F x:=⟨x,a,b,c,d,e,f⟩
theorem pn {A B C D:X->Y->Z->U->Prop} (x:X) (y:Y) (z:Z) (u:U) (a:A x y z u) (b:B x y z u) (c:C x y z u) (d:D x y z u):∃x y z u,A x y z u/\B x y z u/\C x y z u/\D x y z u:=⟨x,tG y z u a b c d⟩
end
section
variable {X Y Z U V W:Sort _} {P A:Prop} {B C D E:X->Y->Z->Prop} {F:X->Y->Prop} {G H:X->Y->Z->U->V->Prop}
theorem L_ {A:X->Y->Z->U->V->W->Prop} (h:∃x y z u v w,A x y z u v w) (k:∀x y z u v w,A x y z u v w->P):P:=h.elim λx h=>G1 h (k x)
theorem Ma {A:X->Y->Prop} (h:∃x y,A x y/\∃z,B x y z/\C x y z/\D x y z) (k:∀x y,A x y->∀z,B x y z->C x y z->D x y z->P):P:=h.elim λx h=>h.elim λy h=>h.elim λa h=>cV h (k x y a)
theorem zu {A B C D E F:X->Prop} (h:∃x,A x/\B x/\C x/\D x/\E x/\F x) (k:∀x,A x->B x->C x->D x->E x->F x->P):P:=h.elim λx h=>qF h (k x)
theorem CU {A:X->Y->Z->Prop} (h:∃x y z,A x y z/\B x y z/\C x y z/\D x y z/\E x y z) (k:∀x y z,A x y z->B x y z->C x y z->D x y z->E x y z->P):P:=h.elim λx h=>qG h (k x)
theorem CV {B C D E:X->Y->Prop} (h:A/\∃x y,B x y/\C x y/\D x y/\E x y/\F x y) (k:A->∀x y,B x y->C x y->D x y->E x y->F x y->P):P:=h.elim λa h=>qG h (k a)
theorem H3 {A F:X->Y->Z->Prop} (h:∃x y z,A x y z/\B x y z/\C x y z/\D x y z/\E x y z/\F x y z) (k:∀x y z,A x y z->B x y z->C x y z->D x y z->E x y z->F x y z->P):P:=h.elim λx h=>h.elim λy h=>zu h (k x y)
theorem Av {B C D E G:X->Y->Prop} (h:A/\∃x y,B x y/\C x y/\D x y/\E x y/\F x y/\G x y) (k:A->∀x y,B x y->C x y->D x y->E x y->F x y->G x y->P):P:=h.elim λa h=>h.elim λx h=>zu h (k a x)
theorem Eo {A B C:X->Y->Z->U->V->Prop} {D E:X->Y->Z->U->V->W->Prop} (h:∃x y z u v,A x y z u v/\B x y z u v/\C x y z u v/\∃w,D x y z u v w/\E x y z u v w) (k:∀x y z u v,A x y z u v->B x y z u v->C x y z u v->∀w,D x y z u v w->E x y z u v w->P):P:=h.elim λx h=>h.elim λy h=>h.elim λz h=>h.elim λu h=>h.elim λv h=>h.elim λa h=>h.elim λb h=>uq h (k x y z u v a b)
theorem Ep {A:X->Y->Prop} {B C D E:X->Y->Z->U->V->W->Prop} (h:∃x y,A x y/\∃z u v w,B x y z u v w/\C x y z u v w/\D x y z u v w/\E x y z u v w) (k:∀x y,A x y->∀z u v w,B x y z u v w->C x y z u v w->D x y z u v w->E x y z u v w->P):P:=h.elim λx h=>h.elim λy h=>h.elim λa h=>lE h (k x y a)
theorem B5 {B C:Prop} {D E F:X->Y->Z->U->V->Prop} (h:A/\B/\C/\∃x y z u v,D x y z u v/\E x y z u v/\F x y z u v/\G x y z u v/\H x y z u v) (k:A->B->C->∀x y z u v,D x y z u v->E x y z u v->F x y z u v->G x y z u v->H x y z u v->P):P:=h.elim λa h=>h.elim λb h=>h.elim λc h=>h.elim λx h=>h.elim λy h=>CU h (k a b c x y)
theorem xE {B C:Prop} {D E F I a b c:X->Y->Z->U->V->Prop} (h:A/\B/\C/\∃x y z u v,D x y z u v/\E x y z u v/\F x y z u v/\G x y z u v/\H x y z u v/\I x y z u v/\a x y z u v/\b x y z u v/\c x y z u v) (k:A->B->C->∀x y z u v,D x y z u v->E x y z u v->F x y z u v->G x y z u v->H x y z u v->I x y z u v->a x y z u v->b x y z u v->c x y z u v->P):P:=h.elim λa h=>h.elim λe h=>h.elim λf h=>h.elim λx h=>h.elim λy h=>h.elim λz h=>h.elim λu h=>h.elim λv h=>h.elim λg h=>h.elim λi h=>h.elim λd h=>qF h (k a e f x y z u v g i d)
end
local macro_rules | `(tactic| rw $s:rwRuleSeq) => return mx (s.raw[1].getSepArgs.toList.map fun r => mx [r[1], r, Lean.mkIdent (if r[0].isNone then `dq else `dH)] "_ $2 $0 _ _ 2Term.syntheticHole 2 2Term.app 2refine _ 0 1optConfig _ $1 1 _ 3rwRuleSeq 0 4rewriteSeq |2") "_ 1tacticRfl &withReducible &tacticTry_ ;"
local macro_rules | `(nomatch $h) => return mx [h] "_ `Ub $0 1 2Term.app 2exact _ `U_ $0 1 2Term.app 2exact _ $0 0 3injection _ 1done ;2 _ 0 $0 2elimTarget 1 0 0 4cases |4 &Term.byTactic"
local macro_rules | `(tactic| cases $h:ident) => return mx [h] "_ $0 0 3injection _ 1done ;2 &focus _ 0 $0 2elimTarget 1 _ _ 0 _ 3Tactic.rcasesPat.tuple 1 1rcasesPatMed 0 2rcasesPatLo 2 3rcases |2"
section
open PySem
set_option genInjectivity true in
inductive AV where
 |n
 |b (b:bD)
 |i (i:aq)
 |s (s:ae af)
 |t (vs:ae AV)
 |l (n:af)
 |r (a b:aq)
 |o (f:aC) (cs:ae (aC×af))
 |f (f:aC)
 |c (c:aC)
 |u (id:aC)
 |y (n:aC)
set_option genInjectivity true in
inductive AO where
 |l (xs:ae AV)
 |d (es:ae (AV×AV))
 |i (c:aC) (d:af)
 |n (fs:ae (aC×AV))
 |c (v:au AV)
noncomputable abbrev St:=ae AO
set_option genInjectivity true in
inductive R (α:Type) where
 |k (a:α) (σ:St)
 |x (c:aC) (σ:St)
 |b
noncomputable def R.bind {α c:Type} (r:R α) (f:α->St->R c):R c:=match r with|.k a σ=>f a σ|.x _ _=>.b|.b=>.b
noncomputable def R.bindX {α d:Type} (r:R α) (f:α->St->R d):R d:=match r with|.k a σ=>f a σ|.x c σ=>.x c σ|.b=>.b
noncomputable def gc {α:Type} (b:bD):R α->R α
 |.x c σ=>if b then .x c σ else .b
 |r=>r
noncomputable def opt {α:Type} (c:St):au α->R α
 |some a=>.k a c
 |none=>.b
inductive IE where
 |l (v:AV)
 |v (x:aC)
 |c (x:aC)
 |g (x:aC)
 |b (op:jI) (a b:IE)
 |n (a:IE)
 |t (a:IE)
 |o (op:BoolOp) (es:ae IE)
 |m (a:IE) (op:qb) (b:IE)
 |M (a:IE) (op:qb) (b:IE) (op':qb) (c:IE)
 |i (t a b:IE)
 |p (es:ae IE)
 |s (es:ae IE)
 |d (ks vs:ae IE)
 |a (e:IE) (n:aC)
 |u (e i:IE)
 |e (e:IE) (lo hi:au IE)
 |f (f:IE) (args:ae IE)
 |h (e:IE) (n:aC) (args:ae IE)
 |k (elt:IE) (x:aC) (it:IE) (c:au IE)
 |q (elt:IE) (x:aC) (it:IE) (y:aC) (it2:IE)
 |j (k v:IE) (x:aC) (it:IE)
inductive Tgt where
 |v (x:aC)
 |c (x:aC)
 |p (xs:ae aC)
inductive IS where
 |e (e:IE)
 |a (x:aC) (e:IE)
 |c (x:aC) (e:IE)
 |t (xs:ae aC) (e:IE)
 |o (o:IE) (n:aC) (e:IE)
 |s (o i:IE) (e:IE)
 |g (x:aC) (op:jI) (e:IE)
 |u (o i:IE) (op:jI) (e:IE)
 |i (t:IE) (a b:ae IS)
 |f (x:Tgt) (it:IE) (body:ae IS)
 |r (e:IE)
 |x (e:IE)
 |y (body:ae IS) (exc:aC) (x:aC)
structure AF where
 v:ae (aC×AV)
 c:ae (aC×af)
noncomputable def bA (x:aC) (v:AV):ae (aC×AV)->ae (aC×AV)
 |[]=>[(x,v)]
 |(y,w)::r=>if x=y then(x,v)::r else(y,w)::bA x v r
structure FD where
 p:ae aC
 d:ae AV
 c:ae aC
 b:ae IS
structure Prog where
 g:aC->au AV
 f:aC->au FD
 m:aC->aC->au aC
 x:aC->bD
 s:aC->ae aC
mutual
noncomputable def dO:AV->AV->bD
 |.n,.n=>ai
 |.b a,.b b=>a==b
 |.i a,.i b=>decide (a=b)
 |.s a,.s b=>decide (a=b)
 |.t a,.t b=>iW a b
 |.l a,.l b=>decide (a=b)
 |.r a b,.r c d=>decide (a=c)&&decide (b=d)
 |.o f cs,.o g ds=>decide (f=g)&&decide (cs=ds)
 |.f a,.f b=>decide (a=b)
 |.c a,.c b=>decide (a=b)
 |.u a,.u b=>decide (a=b)
 |.y a,.y b=>decide (a=b)
 |_,_=>aD
noncomputable def iW:ae AV->ae AV->bD
 |[],[]=>ai
 |a::as,b::bs=>dO a b&&iW as bs
 |_,_=>aD
end
noncomputable def B6:ae AV->bD
 |[]=>ai
 |.i _::r=>B6 r
 |_=>aD
noncomputable def l8:ae AV->bD
 |[]=>ai
 |.s _::r=>l8 r
 |_=>aD
noncomputable def gd:af->AV->bD
 |0=>λv=>match v with|.i _=>ai|.s _=>ai|_=>aD
 |n+1=>λv=>match v with|.i _=>ai|.s _=>ai|.t vs=>vs.all (gd n)|_=>aD
noncomputable def tH (a:ae AV):bD:=a.all (gd 1)
inductive KK where|i|s|t
 deriving oR
noncomputable def kk:AV->au KK
 |.i _=>aa .i
 |.s _=>aa .s
 |.t vs=>if tH vs then aa .t else ah
 |_=>ah
noncomputable def limit:af:=2^20
noncomputable def cP (i:aq):bD:=decide (-(2^30)<i/\i<2^30)
noncomputable def iX (a:ae (AV×AV)) (k:AV):au AV:=(a.find? λe=>dO e.1 k).map (·.2)
noncomputable def oF (k v:AV):ae (AV×AV)->ae (AV×AV)
 |[]=>[(k,v)]
 |(a,v')::r=>if dO a k then(a,v)::r else(a,v')::oF k v r
noncomputable def d_ (a:ae (AV×AV)) (k:AV):bD:=(kk k).isSome&&a.all λe=>decide (kk e.1=kk k)
noncomputable def alloc (a:St) (o:AO):R AV:=.k (.l (Wb a)) (a++[o])
noncomputable def bV {α:Type} (a:ae α):bD:=decide ((Wb a)<=limit)
noncomputable def rep (s:ae af):af->ae af
 |0=>[]
 |n+1=>s++rep s n
noncomputable def OB (a:St):au AO->au AO->R AV
 |some (.l xs),aa (.l ys)=>if bV (xs++ys)then alloc a (.l (xs++ys))else .b
 |_,_=>.b
noncomputable def binop (op:jI) (a b:AV) (c:St):R AV:=match op,a,b with
 |.Add,.i x,.i y=>.k (.i (x+y)) c
 |.Sub,.i x,.i y=>.k (.i (x-y)) c
 |.Mult,.i x,.i y=>if cP x&&cP y then .k (.i (x*y)) c else .b
 |.Mod,.i x,.i y=>if y=0 then .b else .k (.i (x.fmod y)) c
 |.FloorDiv,.i x,.i y=>if y=0||!cP y then .b else .k (.i (x.fdiv y)) c
 |.Add,.s x,.s y=>if bV (x++y)then .k (.s (x++y)) c else .b
 |.Mult,.s x,.i y=>if 0<=y/\y<=limit/\(Wb x)=1 then .k (.s (rep x y.toNat)) c else .b
 |.Add,.t x,.t y=>if bV (x++y)then .k (.t (x++y)) c else .b
 |.Add,.l x,.l y=>OB c c[x]? c[y]?
 |_,_,_=>.b
noncomputable def R6:AV->AV->au bD
 |.i a,.i b=>aa (decide (a=b))
 |.s a,.s b=>aa (decide (a=b))
 |.t a,.t []=>aa a.isEmpty
 |_,_=>ah
noncomputable def Aw:au AO->au bD
 |some (.l _)=>aa ai
 |_=>ah
noncomputable def R7:au AO->au AO->au bD
 |some (.l xs),aa (.l ys)=>if l8 xs&&l8 ys then aa (!iW xs ys)else ah
 |_,_=>ah
noncomputable def R8 (c:St):AV->AV->au bD
 |.i a,.i b=>aa (!decide (a=b))
 |.s a,.s b=>aa (!decide (a=b))
 |.b a,.b b=>aa (a !=b)
 |.n,.n=>aa aD
 |.n,.l n=>Aw c[n]?
 |.l n,.n=>Aw c[n]?
 |.l n,.l m=>R7 c[n]? c[m]?
 |_,_=>ah
noncomputable def gj (a b:ae af):bD:=decide (a<b)
noncomputable def R9 (x:AV):au AO->au bD
 |some (.d es)=>if d_ es x then aa (iX es x).isSome else ah
 |some (.l vs)=>(match x with
  |.s c=>if l8 vs then aa (vs.any λv=>dO v (.s c))else ah
  |_=>ah)
 |_=>ah
noncomputable def Es (a:St) (x:AV):AV->au bD
 |.t vs=>(match x with
  |.i i=>if B6 vs then aa (vs.any λv=>dO v (.i i))else ah
  |_=>ah)
 |.s s=>(match x with
  |.s [c]=>aa (s.any λd=>decide (d=c))
  |_=>ah)
 |.l n=>R9 x a[n]?
 |_=>ah
noncomputable def Et:AV->bD
 |.n=>ai
 |_=>aD
noncomputable def dG (op:qb) (a b:AV) (c:St):au bD:=match op with
 |.Eq=>R6 a b
 |.NotEq=>R8 c a b
 |.Lt=>(match a,b with
  |.i x,.i y=>aa (decide (x<y))|.s x,.s y=>aa (gj x y)|_,_=>ah)
 |.Gt=>(match a,b with
  |.i x,.i y=>aa (decide (y<x))|.s x,.s y=>aa (gj y x)|_,_=>ah)
 |.LtE=>(match a,b with
  |.i x,.i y=>aa (decide (x<=y))|.s x,.s y=>aa (!gj y x)|_,_=>ah)
 |.GtE=>(match a,b with
  |.i x,.i y=>aa (decide (y<=x))|.s x,.s y=>aa (!gj x y)|_,_=>ah)
 |.Is=>(match b with|.n=>aa (Et a)|_=>ah)
 |.IsNot=>(match b with|.n=>aa (!Et a)|_=>ah)
 |.In=>Es c a b
 |.NotIn=>(Es c a b).map (!·)
noncomputable def G7:au AO->au bD
 |some (.l xs)=>if bV xs then aa (!xs.isEmpty)else ah
 |_=>ah
noncomputable def truth (v:AV) (a:St):au bD:=match v with|.b b=>aa b|.l n=>G7 a[n]?|_=>ah
noncomputable def idx (n:af) (i:aq):au af:=if 0<=i then(if i<n then aa i.toNat else ah)else(if 0<=i+n then aa (i+n).toNat else ah)
noncomputable def Eu (i:AV):au AO->au AV
 |some (.l vs)=>(match i with|.i k=>if 0<=k/\k<(Wb vs)/\cP k then vs[k.toNat]? else ah|_=>ah)
 |some (.d es)=>if d_ es i then iX es i else ah
 |_=>ah
noncomputable def du (a i:AV) (b:St):au AV:=match a with|.t vs=>(match i with|.i k=>if cP k then(idx (Wb vs) k).bind λj=>vs[j]? else ah|_=>ah)|.s s=>(match i with|.i k=>if 0<=k/\k<(Wb s)/\(Wb s)<=limit then(s[k.toNat]?).map λc=>.s [c]else ah|_=>ah)|.l n=>Eu i b[n]?|_=>ah
noncomputable def wk (n:af) (d:af):au AV->au af
 |none=>aa d
 |some (.i i)=>if cP i then aa (if 0<=i then min i.toNat n else(i+n).toNat)else ah
 |_=>ah
noncomputable def dZ {α:Type} (a:ae α) (lo b:af):ae α:=(a.take b).drop lo
noncomputable def Ew {α c:Type} (p q:au α) (f:α->α->R c):R c:=match p,q with|some a,aa b=>f a b|_,_=>.b
noncomputable def B7 (lo a:au AV) (c:St):au AO->R AV
 |some (.l vs)=>if bV vs then Ew (wk (Wb vs) 0 lo) (wk (Wb vs) (Wb vs) a) λl h=>alloc c (.l (dZ vs l h))else .b
 |_=>.b
noncomputable def slice (a:AV) (lo d:au AV) (c:St):R AV:=match a with|.t vs=>if bV vs then Ew (wk (Wb vs) 0 lo) (wk (Wb vs) (Wb vs) d) λl h=>.k (.t (dZ vs l h)) c else .b|.s s=>if bV s then Ew (wk (Wb s) 0 lo) (wk (Wb s) (Wb s) d) λl h=>.k (.s (dZ s l h)) c else .b|.l n=>B7 lo d c c[n]?|_=>.b
noncomputable def gm (i:aq):ae af:=(toString i).toList.map wX
noncomputable def jW {α:Type} (lt:α->α->bD) (x:α):ae α->ae α
 |[]=>[x]
 |y::r=>if lt x y then x::y::r else y::jW lt x r
noncomputable def fF {α:Type} (lt:α->α->bD) (l:ae α):ae α:=l.foldl (λa x=>jW lt x a) []
noncomputable def vp:ae AV->au (ae aq)
 |[]=>aa []
 |.i i::r=>(vp r).map (i::·)
 |_=>ah
noncomputable def tI:ae AV->au (ae (ae af))
 |[]=>aa []
 |.s i::r=>(tI r).map (i::·)
 |_=>ah
noncomputable def jG (c:ae AV):au (ae AV):=match vp c with
 |some is=>aa ((fF (λa b=>decide (a<b)) is).map .i)
 |none=>match tI c with|some d=>aa ((fF gj d).map .s)|none=>ah
noncomputable def lr (a b:aq):ae AV:=(mH (b-a).toNat).map λ(i:af)=>.i (a+(i:aq))
noncomputable def G8 (n:af):au AO->au (ae AV×au af)
 |some (.l vs)=>if bV vs then aa (vs,aa n)else ah
 |_=>ah
noncomputable def items (v:AV) (d:St):au (ae AV×au af):=match v with|.t vs=>if bV vs then aa (vs,ah)else ah|.r a b=>if cP a&&cP b&&decide ((b-a).toNat<=limit)then aa (lr a b,ah)else ah|.s s=>if bV s then aa (s.map λc=>.s [c],ah)else ah|.l n=>G8 n d[n]?|_=>ah
noncomputable def G9 (a:ae AV):au AO->bD
 |some (.l b)=>iW b a
 |_=>aD
noncomputable def dU (o:au af) (a:ae AV) (b:St):bD:=match o with|none=>ai|some n=>G9 a b[n]?
noncomputable def Ax:ae af->au af
 |[]=>ah
 |a=>if a.all λd=>decide (48<=d/\d<=57)then aa (a.foldl (λn d=>n*10+(d-48)) 0)else ah
noncomputable def ur (m s:ae af):bD:=decide (s.take (Wb m)=m)
noncomputable def fe (m:ae af):ae af->af->au af
 |s,k=>if ur m s then aa k else match s with|[]=>ah|_::r=>fe m r (k+1)
noncomputable def OC (a:St):au AO->R AV
 |some (.l vs)=>if bV vs then .k (.i (Wb vs)) a else .b
 |_=>.b
noncomputable def Ex (c:St):au AO->R AV
 |some (.l vs)=>if bV vs then(match jG vs with|some a=>alloc c (.l a)|none=>.b)else .b
 |some (.d es)=>if bV es then(match jG (es.map (·.1))with|some a=>alloc c (.l a)|none=>.b)else .b
 |_=>.b
noncomputable def builtin (id:aC) (args:ae AV) (c:St):R AV:=
 if id="len" then(match args with
  |[.t vs]=>if bV vs then .k (.i (Wb vs)) c else .b
  |[.s s]=>if bV s then .k (.i (Wb s)) c else .b
  |[.l n]=>OC c c[n]?
  |_=>.b)
 else if id="sorted" then(match args with
  |[.l n]=>Ex c c[n]?
  |_=>.b)
 else if id="isinstance" then(match args with
  |[a,.y n]=>if n="str" then(match a with
   |.s _=>.k (.b ai) c
   |.i _=>.k (.b aD) c
   |_=>.b)else .b
  |_=>.b)
 else .b
noncomputable def OD (a:St):au AO->R AV
 |some (.l vs)=>if bV vs then .k (.t vs) a else .b
 |_=>.b
noncomputable def kq (n:aC) (args:ae AV) (c:St):R AV:=
 if n="range" then(match args with
  |[.i b]=>if cP b then .k (.r 0 b) c else .b
  |[.i a,.i b]=>if cP a&&cP b then .k (.r a b) c else .b
  |_=>.b)
 else if n="str" then(match args with
  |[.s s]=>.k (.s s) c
  |[.i i]=>if cP i||decide (-(10^17)<i/\i<10^17)then .k (.s (gm i)) c else .b
  |_=>.b)
 else if n="int" then(match args with
  |[.s s]=>if decide ((Wb s)<=16)then(match Ax s with|some k=>.k (.i k) c|none=>.b)else .b
  |_=>.b)
 else if n="tuple" then(match args with
  |[.t vs]=>.k (.t vs) c
  |[.l l]=>OD c c[l]?
  |_=>.b)
 else .b
noncomputable def JC (l:af) (v:AV) (a:St):au AO->R dt
 |some (.l vs)=>if bV vs then .k () (a.set l (.l (vs++[v])))else .b
 |_=>.b
noncomputable def li (l:af) (v:AV) (a:St):R dt:=JC l v a a[l]?
noncomputable def Ay (n:aC):au AO->au aC
 |some (.l _)=>if n="append" then aa "list.append" else ah
 |some (.d _)=>if n="get" then aa "dict.get" else ah
 |_=>ah
noncomputable def H4 (o:AV) (n:aC) (a:St):au aC:=match o with|.l l=>Ay n a[l]?|.s _=>if n="find" then aa "str.find" else ah|_=>ah
noncomputable def OE (k d:AV) (a:St):au AO->R AV
 |some (.d es)=>if d_ es k then .k ((iX es k).getD d) a else .b
 |_=>.b
noncomputable def jg (id:aC) (o:AV) (args:ae AV) (c:St):R AV:=
 if id="list.append" then(match o,args with
  |.l l,[v]=>(li l v c).bind λe c=>.k .n c
  |_,_=>.b)
 else if id="dict.get" then(match o,args with
  |.l l,[k,d]=>OE k d c c[l]?
  |_,_=>.b)
 else if id="str.find" then(match o,args with
  |.s s,[m,a,b]=>(match m with
   |.s m=>(match a with
    |.i a=>(match b with
     |.i b=>if bV s&&decide (m≠[]/\0<=a/\a<=b/\b<=(Wb s))then
       .k (.i (match fe m (dZ s a.toNat b.toNat) a.toNat with|some k=>(k:aq)|none=>-1)) c else .b
     |_=>.b)
    |_=>.b)
   |_=>.b)
  |_,_=>.b)
 else .b
noncomputable def ni (a:ae aC) (b:ae AV) (args:ae AV):au (ae (aC×AV)):=
 if(Wb args)<=(Wb a)/\(Wb a)<=(Wb args)+(Wb b)then aa (a.zip (args++b.drop ((Wb b)+(Wb args)-(Wb a))))else ah
noncomputable def j8:ae aC->ae (aC×AV)->St->ae (aC×af)×St
 |[],_,σ=>([],σ)
 |c::cs,bs,σ=>let r:=j8 cs bs (σ++[.c (bs.lookup c)]);((c,(Wb σ))::r.1,r.2)
noncomputable def B8:ae aC->ae AV->ae (aC×AV)->ae (aC×AV)
 |x::xs,v::vs,l=>B8 xs vs (bA x v l)
 |_,_,l=>l
noncomputable def qK (b:AF) (x:aC) (v:AV) (a:St):au St:=match b.c.lookup x with|some c=>(match a[c]? with|some (.c _)=>aa (a.set c (.c (aa v)))|_=>ah)|none=>ah
noncomputable def il (t:Tgt) (v:AV) (fr:AF) (a:St):au (AF×St):=match t with
 |.v x=>aa ({fr with v:=bA x v fr.v},a)
 |.c x=>(qK fr x v a).map λa=>(fr,a)
 |.p xs=>(match v with
  |.t vs=>if(Wb xs)=(Wb vs)then aa ({fr with v:=B8 xs vs fr.v},a)else ah
  |_=>ah)
inductive Fl where
 |n
 |r (v:AV)
noncomputable def eJ {β:Type} (d:au af) (all:ae AV) (a:AV->β->St->R (Fl×β)):ae AV->β->St->R (Fl×β)
 |[],b,c=>if dU d all c then .k (.n,b) c else .b
 |v::vs,b,c=>if dU d all c then
   (a v b c).bindX λx c=>(match x with
    |(.n,b)=>eJ d all a vs b c
    |(.r v,b)=>.k (.r v,b) c)
  else .b
noncomputable def fp (c:au af) (all:ae AV) (a:AV->St->R dt):ae AV->St->R dt
 |[],d=>if dU c all d then .k () d else .b
 |v::vs,d=>if dU c all d then(a v d).bind λe d=>fp c all a vs d else .b
noncomputable def Az (l:af) (k v:AV) (a:St):au AO->R dt
 |some (.d es)=>if d_ es k&&bV es then .k () (a.set l (.d (oF k v es)))else .b
 |_=>.b
noncomputable def l9 (l:af) (k v:AV) (a:St):R dt:=Az l k v a a[l]?
noncomputable def uu (l:af):ae AV->ae AV->St->R dt
 |k::c,v::vs,a=>(l9 l k v a).bind λd a=>uu l c vs a
 |[],[],a=>.k () a
 |_,_,_=>.b
noncomputable def fG (e:IE):bD:=e.ctorIdx==17
noncomputable def Mb:AV->au AV
 |.u _=>ah
 |v=>aa v
noncomputable def JD (x:aC) (a:St):au AO->R AV
 |some (.n c)=>opt a ((c.lookup x).bind Mb)
 |_=>.b
noncomputable def Ey (P:Prog) (x:aC) (a:St):au AO->R AV
 |some (.i k d)=>if(P.s k).contains x then JD x a a[d]? else .b
 |_=>.b
noncomputable def Ez (P:Prog) (x:aC) (v:AV) (a:St):R AV:=match v with|.l l=>Ey P x a a[l]?|_=>.b
noncomputable def xF:au AO->au (aC×af)
 |some (.i c d)=>aa (c,d)
 |_=>ah
noncomputable def AA (a:St):AV->au (aC×af)
 |.l l=>xF a[l]?
 |_=>ah
noncomputable def EA (P:Prog) (x c:aC):au AO->au aC
 |some (.n a)=>if !P.x c&&(a.lookup x).isNone then P.m c x else ah
 |_=>ah
noncomputable def j9 (a:AF) (x:aC) (b:St):au AV:=(a.c.lookup x).bind λn=>match b[n]? with|some (.c v)=>v|_=>ah
noncomputable abbrev Mc (l:af) (k i j:aq) (a:AF) (c:St) (w:au AO):R (Fl×AF):=match w with|some (.l vs)=>if 0<=k/\k<(Wb vs)/\cP k=ai then .k (.n,a) (c.set l (.l (vs.set k.toNat (.i (i+j)))))else .b|_=>.b
noncomputable abbrev Md (op:jI) (d e a b:AV) (f:AF) (c:St):R (Fl×AF):=match op,d,e,a,b with|.Add,.l l,.i k,.i i,.i j=>Mc l k i j f c c[l]?|_,_,_,_,_=>.b
mutual
noncomputable def bg (P:Prog):af->AF->IE->St->R AV
 |0,_,_,_=>.b
 |n+1,fr,e,w=>match e with
  |.l v=>.k v w
  |.v x=>opt w (fr.v.lookup x)
  |.c x=>opt w (j9 fr x w)
  |.g x=>opt w (P.g x)
  |.b op a b=>(bg P n fr a w).bind λx w=>(bg P n fr b w).bind λy w=>binop op x y w
  |.n a=>(bg P n fr a w).bind λx w=>(match x with|.i i=>.k (.i (-i)) w|_=>.b)
  |.t a=>(bg P n fr a w).bind λx w=>(opt w (truth x w)).bind λb w=>.k (.b (!b)) w
  |.o op es=>tJ P n fr op es w
  |.m a op b=>(bg P n fr a w).bind λx w=>(bg P n fr b w).bind λy w=>(opt w (dG op x y w)).bind λr w=>.k (.b r) w
  |.M a op b F c=>(bg P n fr a w).bind λx w=>(bg P n fr b w).bind λy w=>(opt w (dG op x y w)).bind λr w=>if r then(bg P n fr c w).bind λz w=>(opt w (dG F y z w)).bind λL w=>.k (.b L) w else .k (.b aD) w
  |.i t a b=>(er P n fr t w).bind λc w=>if c then bg P n fr a w else bg P n fr b w
  |.p es=>(ie P n fr es w).bind λA w=>if bV A then .k (.t A) w else .b
  |.s es=>(ie P n fr es w).bind λA w=>if bV A then alloc w (.l A)else .b
  |.d G A=>if(Wb G)<=15/\(Wb G)=(Wb A)then
     (EB P n fr G A (w++[.d []])).bind λD H=>(uu (Wb w) D.1 D.2 H).bind λI E=>.k (.l (Wb w)) E
    else .b
  |.a a x=>(bg P n fr a w).bind λv w=>Ez P x v w
  |.u a i=>(bg P n fr a w).bind λx w=>(bg P n fr i w).bind λy w=>opt w (du x y w)
  |.e a lo hi=>(bg P n fr a w).bind λx w=>(vq P n fr lo w).bind λl w=>(vq P n fr hi w).bind λh w=>slice x l h w
  |.f f args=>(bg P n fr f w).bind λg w=>(ie P n fr args w).bind λA w=>mw P n g A w
  |.h a x args=>(bg P n fr a w).bind λo w=>(match AA w o with
    |some p=>(opt w (EA P x p.1 w[p.2]?)).bind λf w=>(ie P n fr args w).bind λA w=>mw P n (.f f) (o::A) w
    |none=>(opt w (H4 o x w)).bind λid w=>(ie P n fr args w).bind λA w=>jg id o A w)
  |.k elt x it c=>(bg P n fr it w).bind λs w=>(opt w (items s w)).bind λB w=>
    let l:=(Wb w)
    (fp B.2 B.1 (λv w=>let C:AF:=⟨[(x,v)],fr.c⟩
     (match c with|none=>R.k ai w|some t=>er P n C t w).bind λb w=>if b then(bg P n C elt w).bind λy w=>li l y w else .k () w) B.1 (w++[.l []])).bind λI w=>.k (.l l) w
  |.q elt x it y J=>(bg P n fr it w).bind λs w=>(opt w (items s w)).bind λB w=>
    let l:=(Wb w)
    (fp B.2 B.1 (λv w=>(bg P n ⟨[(x,v)],fr.c⟩ J w).bind λN w=>(opt w (items N w)).bind λK w=>fp K.2 K.1 (λu w=>(bg P n ⟨[(x,v),(y,u)],fr.c⟩ elt w).bind λz w=>li l z w) K.1 w) B.1 (w++[.l []])).bind λI w=>.k (.l l) w
  |.j k v x it=>(bg P n fr it w).bind λs w=>(opt w (items s w)).bind λB w=>
    let l:=(Wb w)
    (fp B.2 B.1 (λu w=>let C:AF:=⟨[(x,u)],fr.c⟩
     (bg P n C k w).bind λkv w=>(bg P n C v w).bind λO w=>l9 l kv O w) B.1 (w++[.d []])).bind λI w=>.k (.l l) w
noncomputable def er (P:Prog):af->AF->IE->St->R bD
 |0,_,_,_=>.b
 |n+1,fr,e,d=>match e with|.t a=>(er P n fr a d).bind λb d=>.k (!b) d|.o op es=>rm P n fr op es d|.i t a b=>(er P n fr t d).bind λc d=>if c then er P n fr a d else er P n fr b d|e=>(bg P n fr e d).bind λv d=>opt d (truth v d)
noncomputable def rm (P:Prog):af->AF->BoolOp->ae IE->St->R bD
 |0,_,_,_,_=>.b
 |_+1,_,op,[],a=>.k (match op with|.And=>ai|.Or=>aD) a
 |n+1,fr,op,e::es,a=>(er P n fr e a).bind λb a=>(match op,b with
  |.And,aD=>.k aD a
  |.Or,ai=>.k ai a
  |_,_=>rm P n fr op es a)
noncomputable def tJ (P:Prog):af->AF->BoolOp->ae IE->St->R AV
 |0,_,_,_,_=>.b
 |_+1,_,_,[],_=>.b
 |n+1,fr,op,e::es,a=>(bg P n fr e a).bind λv a=>(match es with
  |[]=>.k v a
  |_::_=>(opt a (truth v a)).bind λb a=>(match op,b with
   |.And,aD=>.k v a
   |.Or,ai=>.k v a
   |_,_=>tJ P n fr op es a))
noncomputable def ie (P:Prog):af->AF->ae IE->St->R (ae AV)
 |0,_,_,_=>.b
 |_+1,_,[],a=>.k [] a
 |n+1,fr,e::es,a=>(bg P n fr e a).bind λv a=>(ie P n fr es a).bind λc a=>.k (v::c) a
noncomputable def EB (P:Prog):af->AF->ae IE->ae IE->St->R (ae AV×ae AV)
 |0,_,_,_,_=>.b
 |n+1,fr,k::d,v::vs,c=>(bg P n fr k c).bind λa c=>(bg P n fr v c).bind λb c=>(EB P n fr d vs c).bind λr c=>.k (a::r.1,b::r.2) c
 |_+1,_,[],[],c=>.k ([],[]) c
 |_+1,_,_,_,_=>.b
noncomputable def vq (P:Prog):af->AF->au IE->St->R (au AV)
 |0,_,_,_=>.b
 |_+1,_,ah,a=>.k ah a
 |n+1,fr,aa e,a=>(bg P n fr e a).bind λv a=>.k (aa v) a
noncomputable def mw (P:Prog):af->AV->ae AV->St->R AV
 |0,_,_,_=>.b
 |n+1,g,args,a=>match g with
  |.u id=>builtin id args a
  |.y t=>kq t args a
  |.f f=>cg P n f [] args a
  |.o f cs=>cg P n f cs args a
  |.c c=>if P.x c then .b else(match P.m c "__init__" with
   |some f=>let o:=(Wb a)+1
     (cg P n f [] (.l o::args) (a++[.n [],.i c (Wb a)])).bind λr a=>(match r with|.n=>.k (.l o) a|_=>.b)
   |none=>.b)
  |_=>.b
noncomputable def cg (P:Prog):af->aC->ae (aC×af)->ae AV->St->R AV
 |0,_,_,_,_=>.b
 |n+1,f,oY,args,a=>(match P.f f with
  |none=>.b
  |some fd=>(match ni fd.p fd.d args with
   |none=>.b
   |some e=>let r:=j8 fd.c e a
     (gc fd.c.isEmpty (dw P n fd.b ⟨e.filter λb=>!fd.c.contains b.1,r.1++oY⟩ r.2)).bindX λx a=>(match x.1 with
      |.n=>.k .n a
      |.r v=>.k v a)))
noncomputable def dw (P:Prog):af->ae IS->AF->St->R (Fl×AF)
 |0,_,_,_=>.b
 |_+1,[],fr,a=>.k (.n,fr) a
 |n+1,s::ss,fr,a=>(cS P n s fr a).bindX λx a=>(match x with
  |(.n,fr)=>dw P n ss fr a
  |(.r v,fr)=>.k (.r v,fr) a)
noncomputable def cS (P:Prog):af->IS->AF->St->R (Fl×AF)
 |0,_,_,_=>.b
 |n+1,s,fr,h=>match s with
  |.e e=>(bg P n fr e h).bind λv h=>(match v with|.n=>.k (.n,fr) h|.i _=>.k (.n,fr) h|_=>.b)
  |.a x e=>(gc (fG e) (bg P n fr e h)).bindX λv h=>.k (.n,{fr with v:=bA x v fr.v}) h
  |.c x e=>(bg P n fr e h).bind λv h=>(match il (.c x) v fr h with|some r=>.k (.n,r.1) r.2|none=>.b)
  |.t xs e=>(bg P n fr e h).bind λv h=>(match il (.p xs) v fr h with|some r=>.k (.n,r.1) r.2|none=>.b)
  |.o o x e=>(bg P n fr e h).bind λv h=>(bg P n fr o h).bind λm h=>(match m with
    |.l l=>(match h[l]? with
     |some (.i k d)=>if !(P.s k).contains x then .b else(match h[d]? with|some (.n w)=>if decide ((Wb w)<=500)then .k (.n,fr) (h.set d (.n (bA x v w)))else .b|_=>.b)
     |_=>.b)
    |_=>.b)
  |.s o i e=>(bg P n fr e h).bind λv h=>(bg P n fr o h).bind λm h=>(bg P n fr i h).bind λq h=>(match m with
    |.l l=>(l9 l q v h).bind λB h=>.k (.n,fr) h
    |_=>.b)
  |.g x op e=>(opt h (fr.v.lookup x)).bind λa h=>(bg P n fr e h).bind λb h=>(match op,a,b with
    |.Add,.i i,.i j=>.k (.n,{fr with v:=bA x (.i (i+j)) fr.v}) h
    |.Add,.s y,.s z=>if bV (y++z)then .k (.n,{fr with v:=bA x (.s (y++z)) fr.v}) h else .b
    |_,_,_=>.b)
  |.u o i op e=>(bg P n fr o h).bind λm h=>(bg P n fr i h).bind λq h=>(opt h (du m q h)).bind λa h=>(bg P n fr e h).bind λb h=>Md op m q a b fr h
  |.i t a b=>(er P n fr t h).bind λc h=>if c then dw P n a fr h else dw P n b fr h
  |.f t it body=>(gc (fG it) (bg P n fr it h)).bindX λs h=>(opt h (items s h)).bindX λl h=>if(match t with|.p _=>l.2.isSome|_=>ai)then eJ l.2 l.1 (λv fr h=>match il t v fr h with|some r=>dw P n body r.1 r.2|none=>.b) l.1 fr h else .b
  |.r e=>(bg P n fr e h).bind λv h=>.k (.r v,fr) h
  |.x e=>(match e with
    |.f (.g c) [.l (.i _)]=>(match P.g c with|some (.c A)=>if P.x A then .x A h else .b|_=>.b)
    |_=>.b)
  |.y ..=>.b
end
noncomputable def fH (P:Prog) (n:af):ae IS->AF->St->R (Fl×AF)
 |[],fr,σ=>.k (.n,fr) σ
 |.y [.a y e] c x::ss,fr,σ=>(match dw P n [.a y e] fr σ with
  |.k (.n,fr) σ=>fH P n ss fr σ
  |.k (.r v,fr) σ=>.k (.r v,fr) σ
  |.x d σ'=>if(match P.g c with|some (.c k)=>decide (k=d)|_=>aD)then fH P n ss {fr with v:=bA x .n fr.v} σ' else .b
  |.b=>.b)
 |s::ss,fr,σ=>(match cS P n s fr σ with
  |.k (.n,fr) σ=>fH P n ss fr σ
  |.k (.r v,fr) σ=>.k (.r v,fr) σ
  |_=>.b)
end
open _root_ renaming Mine.Tactic.AV.casesOn->aN,Mine.Tactic.AO.casesOn->b8,Mine.Tactic.R.casesOn->cO,Mine.Tactic.Fl.casesOn->qr,Mine.Tactic.IS.casesOn->uZ,Mine.Tactic.Tgt.casesOn->Ak,Mine.Tactic.IE.casesOn->BZ
local macro_rules | `(tactic| omega) => return mx [] "_ 1assumption @Nat.le_refl @Int.natCast_nonneg @Int.toNat_natCast |3 @Int.le_add_one @Int.natCast_nonneg ;2 _ 0 1optConfig 2lia |4"
section
open PySem
section
variable {I:Type} {C:I->I->bD} {l m:ae I}
structure yy (C:I->I->bD):Prop where
 asym:∀a b,C a b=ai->C b a=aD
 trans:∀a b c,C b a=aD->C c b=aD->C c a=aD
 anti:∀a b,C a b=aD->C b a=aD->a=b
theorem R_ (x:I):∀l:ae I,(jW C x l).Perm (x::l):=by
 intro a;induction a with
 |nil=>exact .refl _
 |cons y r b=>
  unfold jW;split
  ·exact .refl _
  ·exact((b).cons y).trans (.swap x y r)
theorem JE:∀(l a:ae I),(l.foldl (λa x=>jW C x a) a).Perm (a++l):=by
 intro b;induction b with
 |nil=>exactλa=>by rw[aJ];exact .refl _
 |cons x l c=>exactλa=>(c _).trans (((R_ x a).append_right l).trans (o9.symm))
theorem yz (l:ae I):(fF C l).Perm l:=JE l []
set_option tactic.hygienic true in
theorem Sa (H:yy C) (x:I):∀l:ae I,l.Pairwise (λa b=>C b a=aD)->(jW C x l).Pairwise (λa b=>C b a=aD):=by
 intro d;induction d with
 |nil=>exactλg=>dJ _ _
 |cons y r f=>
  intro h;rw[j1]at h;unfold jW;split
  ·rename_i e
   refine j1.mpr ⟨λz c=>?_,j1.mpr h⟩;rcases bw.mp c with rfl|c
   ·exact H.asym _ _ e
   ·exact H.trans _ _ _ (H.asym _ _ e) (h.1 z c)
  ·rename_i e
   refine j1.mpr ⟨λz c=>?_,f h.2⟩;rcases bw.mp ((R_ x r).mem_iff.mp c)with rfl|c
   ·simpa using e
   ·exact h.1 z c
theorem B9 (H:yy C) (l:ae I):(fF C l).Pairwise (λa b=>C b a=aD):=by
 have:∀(l c:ae I),c.Pairwise (λa b=>C b a=aD)->(l.foldl (λc x=>jW C x c) c).Pairwise (λa b=>C b a=aD):=λl=>by induction l with|nil=>exactλe h=>h|cons x l d=>exactλc h=>d _ (Sa H x c h)
 exact this l [] .nil
theorem CW (H:yy C) (c:l.Pairwise (λa b=>C b a=aD)) (d:m.Pairwise (λa b=>C b a=aD)) (h:l.Perm m):l=m:=
 List.Perm.eq_of_pairwise (λa b e e f g=>H.anti a b g f) c d h
theorem JF (H:yy C) (a:l.Nodup) (b:m.Nodup) (h:∀x,x∈l↔x∈m):fF C l=fF C m:=
 CW H (B9 H l) (B9 H m) ((yz l).trans (((List.perm_ext_iff_of_nodup a b).mpr h).trans (yz m).symm))
theorem qL {x:I}:x∈fF C l↔x∈l:=(yz l).mem_iff
theorem AB (h:l.Nodup):(fF C l).Nodup:=(yz l).nodup_iff.mpr h
theorem wm:(fF C l).length=(Wb l):=(yz l).length_eq
end
theorem Pu:yy gj where
 asym a b h:=by unfold gj at*;exact aX (List.lt_asymm (bC h))
 trans a b c d h2:=by exact aX (rD.mpr (List.le_trans (rD.mp (iT d)) (rD.mp (iT h2))))
 anti a b d h2:=by exact List.le_antisymm (rD.mp (iT h2)) (rD.mp (iT d))
end
section
open PySem PySem.W PyProof.Rows
set_option backward.match.sparseCases true
noncomputable def n_:bD->bx->bZ bx->af->af->af->fh bH eR (au af):=sortPriv%PySem.Builtin.gallop
noncomputable def zv:bZ bx->bZ bx->fh bH eR (bZ bx):=sortPriv%PySem.Builtin.mergeLo
noncomputable def zw:bZ bx->bZ bx->fh bH eR (bZ bx):=sortPriv%PySem.Builtin.mergeHi
noncomputable def AC (g:af):fh bH eR dt:=modify λst=>wY (kindOf st) (eB st) (dn st) g (lR st)
noncomputable abbrev tm (left:bD) (key:bx) (arr:bZ bx) (base:af) (i:af):fh bH eR (au bD):=do
  let x<-jV arr (base+i)
  if left then lt' x key else return(<-lt' key x).map (!·)
theorem H8 (left:bD) (key:bx) (arr:bZ bx) (base n hint:af):n_ left key arr base n hint=(do
 let mut a:=0
 let mut ofs:=1
 let mut lo:=0
 let mut hi:=0
 let aa right<-tm left key arr base hint|return ah
 if right then
  let b:=n-hint
  for _ in[0:n]do
   if ofs>=b then break
   let aa more<-tm left key arr base (hint+ofs)|return ah
   if !more then break
   a:=ofs
   ofs:=2*ofs+1
  lo:=hint+a+1
  hi:=hint+min ofs b
 else
  let b:=hint+1
  for _ in[0:n]do
   if ofs>=b then break
   let aa found<-tm left key arr base (hint-ofs)|return ah
   if found then break
   a:=ofs
   ofs:=2*ofs+1
  lo:=hint+1-min ofs b
  hi:=hint-a
 for _ in[0:n]do
  if lo>=hi then break
  let m:=lo+(hi-lo)/2
  let aa more<-tm left key arr base m|return ah
  if more then lo:=m+1 else hi:=m
 return aa hi):=rfl
theorem Gv (i:af):mergeAt' i=(do
 let s<-get
 let(aa (sa,b,power),aa (sb,nb,_)):=((dn s)[i]?,(dn s)[i+1]?)|unsupported "internal:list.sort.pending"
 set (sU s (((dn s).setIfInBounds i (sa,b+nb,power)).eraseIdxIfInBounds (i+1)))
 let aa k<-n_ aD (<-jV (eB s) sb) (eB s) sa b 0|return aD
 let(sa,b):=(sa+k,b-k)
 if b==0 then return ai
 let aa nb<-n_ ai (<-jV (eB s) (sa+b-1)) (eB s) sb nb (nb-1)|return aD
 if nb==0 then return ai
 let x:=(eB s).extract sa sb
 let y:=(eB s).extract sb (sb+nb)
 let merged<-if b<=nb then zv x y else zw x y
 modify λs=>setArr s (merged.toList.zipIdx.foldl (λa (p,j)=>a.setIfInBounds (sa+j) p) (eB s))
 return(lR (<-get)).isNone):=rfl
section
variable {J:Program} {w:fb} {A:cQ} {E:aE->aM->Prop} {s:aM} {κ:KeyKind} {R:bH} {n U C:af} {b:af->bD}
abbrev GalSt:=au (au af)×af×af
theorem G' {α:Type} {f:af->au α×af×af->fh bH eR (dR (au α×af×af))} {Q:au α×af×af->bH->Prop} (mono:∀i j,i<=j->j<n->b j=ai->b i=ai) (B:U<=C) (z:C<=n) (D:∀i,i<U->b i=ai) (F:∀i,C<=i->i<n->b i=aD)
  (f1:∀x l Q,Q (.done (ah,l,l)) R->wpS (model J w) A E s (f x (ah,l,l)) Q R)
  (f2:∀x l h Q,l<h->h<=n->Q (.yield (if b (l+(h-l)/2)=ai then(ah,l+(h-l)/2+1,h)else(ah,l,l+(h-l)/2))) R->wpS (model J w) A E s (f x (ah,l,h)) Q R)
  (h:∀k,k<=n->(∀i,i<k->b i=ai)->(∀i,k<=i->i<n->b i=aD)->Q (ah,k,k) R):wpS (model J w) A E s (forIn [0:n] ((ah,U,C):au α×af×af) f) Q R:=by
 refine f0 (I:=λx c v=>v=R/\∃l r,c=(ah,l,r)/\l<=r/\r<=n/\r-l<=n-x/\(∀i,i<l->b i=ai)/\∀i,r<=i->i<n->b i=aD) ?_ ?_ ⟨rfl,U,C,rfl,B,z,#["1w~CU!cl<8R,;Uzv=5",z,bY _ _,d8 _ _],D,F⟩
 ·intro x c _ _ y o;refine Av o ?_;clear o;intro d l r g a m p t u;refine dq d ?_;obtain rfl:=g;rcases gN l r with q|q
  ·refine f2 x l r _ q m ?_;cases e:b (l+(r-l)/2)with
   |true=>rw[aF rfl];exact⟨rfl,_,_,rfl,#["VFlqPS*HqLkhWLAE2<u>BKj",q,fT _ _,ag a],m,#["2.bbg)8^xCZ%}Y4i!`N3,3g|;?H&}Y+!d}F",p,ag a,ag #["VFlqPS*HqLkhWLAE2<u>BKi",q,fT _ _,ag a],ag #[59,y],ag #[16,y]],λi C=>mono i _ #[157,C] #["1O,,}}<K1WbB)2PefGyGCtH<hb",m,q,fT _ _,ag a] e,u⟩
   |false=>rw[aG (by simp)];refine⟨rfl,_,_,rfl,#[21],#["1O,,}{8IlUZz~lQ+^!.}gg,=jL",m,q,fT _ _,ag a],#["7s_,Jr?BHlIi7t^|f0IQt<m0scbTLg2$Qf",p,fT _ _,d8 _ _,ag #[64],ag #[16,y]],t,λi C G=>?_⟩;cases H:b i with|false=>rfl|true=>rw[mono _ i C G H]at e;cases e
  ·obtain rfl:l=r:=by exact aB #[1,a] #[1,q]
   exact f1 x l _ (h l m t u)
 ·intro c _ o;refine Av o ?_;clear o;intro d l r g a m p t u;refine dq d ?_;obtain rfl:=g;obtain rfl:l=r:=by exact aB #[1,a] #["CQ~_2sSTF{35mu_!v*.|(2i",p,ag a,jJ #[4],ag #["WV5Mr24C",jJ #[4]]]
  exact h l m t u
theorem G_ {f:af->GalSt->fh bH eR (dR GalSt)} {Q:GalSt->bH->Prop} {m:af} {g:af->bD} (u:0<m) (p:m<=n) (v:g 0=ai)
  (f1:∀x l o Q,m<=o->Q (.done (ah,l,o)) R->wpS (model J w) A E s (f x (ah,l,o)) Q R)
  (f2:∀x l o Q,o<m->Q (if g o=ai then .yield (ah,o,2*o+1)else .done (ah,l,o)) R->wpS (model J w) A E s (f x (ah,l,o)) Q R)
  (h:∀l o,l<o->l<m->g l=ai->(m<=o\/g o=aD)->Q (ah,l,o) R):wpS (model J w) A E s (forIn [0:n] ((ah,0,1):GalSt) f) Q R:=by
 refine f0 (I:=λx c r=>r=R/\∃l o,c=(ah,l,o)/\l<o/\l<m/\g l=ai/\x+1<=o) ?_ ?_ ⟨rfl,0,1,rfl,#["A$G&Z"],u,v,#["1gE9(mT"]⟩
 ·intro x c _ _ y d;refine CV d ?_;clear d;intro a l o b i j k t;refine dq a ?_;obtain rfl:=b;rcases gN o m with q|q
  ·refine f2 x l o _ q ?_;cases e:g o with|true=>rw[aF rfl];exact⟨rfl,_,_,rfl,#["6YA%{*M;t"],q,e,#["lS'(w`XZCC)Rr:br2dxZ`",i,t]⟩|false=>rw[aG (by simp)];exact h l o i j k (.inr e)
  ·exact f1 x l o _ q (h l o i j k (.inl q))
 ·intro c _ d;refine CV d ?_;clear d;intro a l o b i j k t;refine dq a ?_;obtain rfl:=b;exact h l o i j k (.inl #["1w~B`4ZZ5mT?QbRQ9Z",p,t,kW _ _])
theorem H' {left:bD} {key:bx} {arr:bZ bx} {base hint:af} {Q:au af->bH->Prop} (a:hint<n) (z:∀i,i<n->∀Q:au bD->bH->Prop,Q (aa (b i)) R->wpS (model J w) A E s (tm left key arr base i) Q R)
  (mono:∀i j,i<=j->j<n->b j=ai->b i=ai) (h:∀k,k<=n->(∀i,i<k->b i=ai)->(∀i,k<=i->i<n->b i=aD)->Q (aa k) R):
  wpS (model J w) A E s (n_ left key arr base n hint) Q R:=by
 have fin:∀{f:af->GalSt->fh bH eR (dR GalSt)} (U C) {K:GalSt->fh bH eR (au af)},U<=C->C<=n->(∀i,i<U->b i=ai)->(∀i,C<=i->i<n->b i=aD)->(∀k,K (ah,k,k)=pure (aa k))->
   (∀x l h,f x (ah,l,h)=if l>=h then pure (.done (ah,l,h))else(do
    match<-tm left key arr base (l+(h-l)/2)with
    |some more=>if more=ai then pure (.yield (ah,l+(h-l)/2+1,h))else pure (.yield (ah,l,l+(h-l)/2))
    |x=>pure (.done (aa ah,l,h))))->
   wpS (model J w) A E s (forIn [0:n] ((ah,U,C):GalSt) f>>=K) Q R:=λU C K y u v c F D=>by
  refine bq (G' mono y u v c (λx l Q q=>?_) (λx l h Q B G q=>?_) λk H I L=>by rw[F];exact bI (h k H I L))
  ·rw[D,aF (bf _)];exact bI q
  ·rw[D,aG (by exactλd=>#[91,B,d])];refine bq (z _ #["1O,,}}<K1WbB)2PefGU;D!Q(gJ",B,G,fT _ _,ag #[16,B]] _ ?_);dsimp only;cases e:b (l+(h-l)/2)<;>rw[e]at q<;>exact bI q
 rw[H8];refine bq (z hint a _ ?_);dsimp only;cases e:b hint with
 |true=>
  rw[aF rfl];refine bq (G_ (m:=n-hint) (g:=λo=>b (hint+o)) #["1WG0Zeir?M9n%h",a,d8 _ _] #[92,bY _ _] e (λx l o Q q r=>?_) (λx l o Q q r=>?_) λl o y u v c=>?_)
  ·dsimp only;rw[aF q];exact bI r
  ·dsimp only;rw[aG (by exactλd=>#[91,q,d])];refine bq (z _ #[140,q,ag #[16,a]] _ ?_);dsimp only;cases p:b (hint+o)<;>rw[p]at r<;>exact bI r
  ·dsimp only;refine fin _ _ (jF (BR.mpr ⟨y,u⟩) hint) #["'fm?!:`N|t?$5TF",e9 _ _,ag #[16,a]] (λi C=>mono i _ #[157,C] #[140,u,ag #[16,a]] v) (λi C t=>?_) (λk=>rfl) (λx l h=>rfl)
   ·rcases yc (n-hint) o with q|q
    ·exact bJ t (Nat.not_lt.mpr (by rw[kX q,xy (nO a)]at C;exact C))
    ·rw[bP q]at C;replace c:=c.resolve_left λd=>by obtain rfl:=aB q d;exact ly _ (jZ t (by rw[xy (nO a)]at C;exact C))
     cases p:b i with|false=>rfl|true=>have:=mono (hint+o) i C t p;rw[this]at c;cases c
 |false=>
  rw[aG (by simp)];refine bq (G_ (m:=hint+1) (g:=λo=>!b (hint-o)) #["1cM3L5v"] #[86,a] (by rw[t8,e];rfl) (λx l o Q q r=>?_) (λx l o Q q r=>?_) λl o y u v c=>?_)
  ·dsimp only;rw[aF q];exact bI r
  ·dsimp only;rw[aG (by exactλd=>#["SZfU2iO=100",q,d])];refine bq (z _ #[55,a,bY _ _] _ ?_);dsimp only;cases p:b (hint-o)<;>rw[p]at r<;>exact bI r
  ·dsimp only;refine fin _ _ (dI (Nat.sub_le_sub_left (BR.mpr ⟨y,u⟩) _) (iy (Nat.succ_sub_succ hint l))) #["J:FR`<rdU{OF",a,bY _ _] (λi C=>?_) (λi C a=>?_) (λk=>rfl) (λx l h=>rfl)
   ·rcases gN hint o with q|q
    ·exact bJ C (by rw[kX q,iz];exact p_ i)
    ·rw[bP (yY q),Nat.succ_sub q]at C;replace c:=c.resolve_left λd=>bJ d (Nat.not_le.mpr (Nat.lt_succ_of_le q));exact mono i (hint-o) (sG C) #[55,a,bY _ _] (by simpa using c)
   ·cases p:b i with|false=>rfl|true=>have:=mono (hint-l) i (by exact C) a p;rw[this]at v;cases v
end
section
variable {C:KeyKind}
noncomputable def kv (C:KeyKind) (p:bx):C.α:=(C.keyOf p.1).getD C.dflt
def rG (C:KeyKind) (p:bx):Prop:=∃a,C.keyOf p.1=aa a
def dN (C:KeyKind) (p q:bx):Prop:=C.kle (kv C p) (kv C q)
variable {L O X Y:ae bx} {p:bx}
theorem rG.at (h:rG C p):C.keyOf p.1=aa (kv C p):=by refine ck h ?_;clear h;intro a h;unfold kv;rw[h];rfl
theorem dN.trans {q r:bx} (a:dN C p q) (b:dN C q r):dN C p r:=t9 a b
abbrev gD (C:KeyKind) (l:ae bx):Prop:=l.Pairwise (dN C)
variable {R:bx->bx->Prop}
structure fM (R:bx->bx->Prop) (L O X Y:ae bx):Prop where
 s1:(O++X).Pairwise R
 s2:(O++Y).Pairwise R
 pm:(O++(X++Y)).Perm L
theorem fM.swap (h:fM R L O X Y):fM R L O Y X:=⟨h.s2,h.s1,((List.perm_append_comm).append_left O).trans h.pm⟩
theorem fM.takeX {b:ae bx} (h:fM R L O (X++b) Y) (e:∀x∈X,∀y∈Y,R x y):fM R L (O++X) b Y:=by
 refine⟨by rw[aj];exact h.s1,?_,by have:=h.pm;simp only[aj]at this⊢;exact this⟩;have f:=cf.mp h.s1;have c:=cf.mp h.s2;refine cf.mpr (dy ((cf.mp (by rw[aj];exact h.s1:(O++X++b).Pairwise R)).1) c.2.1 (λz a y d=>?_));rcases b7.mp a with a|a
 ·exact c.2.2 z a y d
 ·exact e z a y d
theorem fM.takeY {a:ae bx} (h:fM R L O X (Y++a)) (b:∀y∈Y,∀x∈X,R y x):fM R L (O++Y) X a:=(h.swap.takeX b).swap
def qw (R:bx->bx->Prop) (L O:ae bx):Prop:=O.Pairwise R/\O.Perm L
theorem fM.endY (h:fM R L O X []):qw R L (O++X):=⟨h.s1,by have:=h.pm;rwa [aJ]at this⟩
theorem fM.last {l:bx} (h:fM R L O [l] Y) (a:∀y∈Y,R y l):qw R L (O++Y++[l]):=by
 have b:fM R L O [l] (Y++[]):=by rw[aJ];exact h
 exact(b.takeY λy c x d=>by rw[aL.mp d];exact a y c).endY
end
section
variable {I:Program} {w:fb} {A:cQ} {E:aE->aM->Prop} {s:aM} {C:KeyKind} {J:bH}
theorem vt (a:C.OneLt) {p q:bx} (b:kindOf J=oneType') (c:rG C p) (d:rG C q) {Q:au bD->bH->Prop} (h:Q (aa (C.blt (kv C p) (kv C q))) J):wpS (model I w) A E s (lt' p q) Q J:=by rw[lt'_eq];refine bq (mX ?_);rw[b,keyLt'_oneType];refine bq (qX (wpAny_attempt (a I w A _ s p.1 q.1 _ _ c.at d.at ⟨rfl,?_⟩)));exact bI h
theorem eP {arr:bZ bx} {i:af} {p:bx} (a:arr.toList[i]?=aa p) {Q:bx->bH->Prop} (h:Q p J):wpS (model I w) A E s (jV arr i) Q J:=by rw[elem'_eq,<-ft,a];exact bI h
theorem mS (F:C.OneLt) {left:bD} {key:bx} {arr:bZ bx} {base n hint:af} {S R:ae bx} {Q:au af->bH->Prop} (m:kindOf J=oneType') (M:arr.toList.drop base=S++R) (v:S.length=n) (N:hint<n) (O:gD C S) (ok:∀x∈S,rG C x) (o:rG C key)
  (h:∀k B G,S=B++G->(Wb B)=k->k<=n->(∀x∈B,dN C x key)->(∀x∈G,dN C key x)->Q (aa k) J):
  wpS (model I w) A E s (n_ left key arr base n hint) Q J:=by
 have d:∀i,i<n->∃x,S[i]?=aa x/\x∈S/\arr.toList[base+i]?=aa x:=λi a=>by have e:S[i]?=aa (S[i]'#[56,v,a]):=aR _;refine dS _ e (bG e) ?_;rw[<-iU,M,bM #[56,v,a],e]
 let g:bx->bD:=λx=>if left then C.blt (kv C x) (kv C key)else !C.blt (kv C key) (kv C x)
 let b:af->bD:=λi=>match S[i]? with|some x=>g x|none=>aD
 have bi:∀{i x},S[i]?=aa x->b i=g x:=λ{i x} e=>by show(match S[i]? with|some x=>g x|none=>aD)=_;rw[e]
 have up:∀{x y},dN C x y->g y=ai->g x=ai:=λ{x y} p r=>by induction left using b_ with|true=>exact KeyOrd.klt_of_kle_of_klt p r|false=>have r:(!C.blt (kv C key) (kv C y))=ai:=r;rw[el]at r;have:C.kle (kv C x) (kv C key):=t9 p r;show(!C.blt (kv C key) (kv C x))=ai;rw[el];exact this
 have g1:∀{x},g x=ai->dN C x key:=λ{x} c=>by induction left using b_ with|true=>exact jr c|false=>exact(el _).mp c
 have g2:∀{x},g x=aD->dN C key x:=λ{x} c=>by induction left using b_ with|true=>exact c|false=>exact jr ((yd _).mp c)
 refine H' (b:=b) N (λi a Q q=>?_) (λi j t H D=>?_) λk m P T=>?_
 ·refine cV (d i a) λx l z U=>?_;rw[bi l]at q;refine bq (eP U ?_);induction left using b_ with|true=>exact vt F m (ok x z) o q|false=>refine bq (vt F m o (ok x z) (bI ?_));exact q
 ·refine cV (d i #[163,t,H]) λx l z V=>?_;refine cV (d j H) λy f1 f2 V=>?_;rw[bi f1]at D;rw[bi l];rcases gN i j with q|q
  ·have K:=(aP.mp l)
   have L:=(aP.mp f1)
   refine ck K ?_;clear K;intro W f;clear l z;refine dH f ?_;refine ck L ?_;clear L;intro X f;clear f1 f2;obtain rfl:=f;exact up (i_.mp O i j W X q) D
  ·obtain rfl:i=j:=by exact aB #[1,t] #[1,q]
   rw[l]at f1;cases f1;exact D
 ·refine h k (S.take k) (S.drop k) (dC k S).symm (by rw[bR];exact aB #[1,cZ _ _] #[10,bP #["J:FR`<rd{5T}",v,m]]) m (λx c=>?_) (λx c=>?_)
  ·refine ck (dK.mp c) λi a=>?_;have u:i<k:=by have:=(aP.mp a).1;rw[bR]at this;exact#["J:Fdt5$Wzcc{",this,cZ _ _]
   rw[eS u]at a;exact g1 (by rw[<-bi a];exact P i u)
  ·refine ck (dK.mp c) λi a=>?_;rw[iU]at a;have:=(aP.mp a).1;exact g2 (by rw[<-bi a];exact T _ #[21] #["'fm?%n^e:bab<+1",v,this])
end
abbrev MG:=au (bZ bx)×bZ bx×af×af×af×af×af
abbrev MI:=au (bZ bx)×bZ bx×af×af×af×af
abbrev MO:=au (bZ bx)×bZ bx×af×af×af
section
variable (a b:bZ bx)
noncomputable def OF (c:bZ bx) (d e g f bc:af):fh bH eR (dR MG):=do
 let y<-jV a d
 if(d+1+1==a.size)=ai then pure (.done (aa (c.push y++b.extract e b.size++a.extract (d+1) a.size),c.push y,d+1,e,g,f,bc))
 else if(f<7&&bc<7)=ai then pure (.done (ah,c.push y,d+1,e,g,f,bc))else pure (.yield (ah,c.push y,d+1,e,g,f,bc))
noncomputable def Sb (d:bZ bx) (e c g f bc:af):fh bH eR (dR MG):=do
 let x<-jV b c
 if(c+1==b.size)=ai then pure (.done (aa (d.push x++a.extract e a.size++b.extract (c+1) b.size),d.push x,e,c+1,g,f,bc))
 else do
  let y<-jV a e
  let k<-n_ ai y b (c+1) (b.size-(c+1)) 0
  match k with|some k=>if k>0 then(if(c+1+k==b.size)=ai then pure (.done (aa (d.push x++b.extract (c+1) (c+1+k)++a.extract e a.size++b.extract (c+1+k) b.size),d.push x++b.extract (c+1) (c+1+k),e,c+1+k,g,f,k))else OF a b (d.push x++b.extract (c+1) (c+1+k)) e (c+1+k) g f k)else OF a b (d.push x) e (c+1) g f k|_=>pure (.done (aa (d.push x++a.extract e a.size++b.extract (c+1) b.size),d.push x,e,c+1,g,f,bc))
noncomputable def Sc (d:bZ bx) (c e g f bc:af):fh bH eR (dR MG):=do
 AC g
 let x<-jV b e
 let k<-n_ aD x a c (a.size-c) 0
 match k with
 |some k=>if k>0 then(if(c+k+1==a.size)=ai then pure (.done (aa (d++a.extract c (c+k)++b.extract e b.size++a.extract (c+k) a.size),d++a.extract c (c+k),c+k,e,g,k,bc))
   else if(c+k==a.size)=ai then pure (.done (aa (d++a.extract c (c+k)++a.extract (c+k) a.size++b.extract e b.size),d++a.extract c (c+k),c+k,e,g,k,bc))
   else Sb a b (d++a.extract c (c+k)) (c+k) e g k bc)else Sb a b d c e g k bc
 |_=>pure (.done (aa (d++a.extract c a.size++b.extract e b.size),d,c,e,g,f,bc))
noncomputable def H_ (c:MG):fh bH eR (dR MG):=
 if c.2.2.2.2.1>1 then Sc a b c.2.1 c.2.2.1 c.2.2.2.1 (c.2.2.2.2.1-1) c.2.2.2.2.2.1 c.2.2.2.2.2.2 else Sc a b c.2.1 c.2.2.1 c.2.2.2.1 c.2.2.2.2.1 c.2.2.2.2.2.1 c.2.2.2.2.2.2
noncomputable def Ia (g:af) (c:MI):fh bH eR (dR MI):=do
 let x<-jV b c.2.2.2.1
 let y<-jV a c.2.2.1
 let r<-lt' x y
 match r with
 |some r=>
  if r=ai then(do
   let x<-jV b c.2.2.2.1
   if(c.2.2.2.1+1==b.size)=ai then pure (.done (aa (c.2.1.push x++a.extract c.2.2.1 a.size++b.extract (c.2.2.2.1+1) b.size),c.2.1.push x,c.2.2.1,c.2.2.2.1+1,0,c.2.2.2.2.2+1))
   else if c.2.2.2.2.2+1>=g then pure (.done (ah,c.2.1.push x,c.2.2.1,c.2.2.2.1+1,0,c.2.2.2.2.2+1))else pure (.yield (ah,c.2.1.push x,c.2.2.1,c.2.2.2.1+1,0,c.2.2.2.2.2+1)))
  else(do
   let y<-jV a c.2.2.1
   if(c.2.2.1+1+1==a.size)=ai then pure (.done (aa (c.2.1.push y++b.extract c.2.2.2.1 b.size++a.extract (c.2.2.1+1) a.size),c.2.1.push y,c.2.2.1+1,c.2.2.2.1,c.2.2.2.2.1+1,0))
   else if c.2.2.2.2.1+1>=g then pure (.done (ah,c.2.1.push y,c.2.2.1+1,c.2.2.2.1,c.2.2.2.2.1+1,0))else pure (.yield (ah,c.2.1.push y,c.2.2.1+1,c.2.2.2.1,c.2.2.2.2.1+1,0)))
 |_=>pure (.done (aa (c.2.1++a.extract c.2.2.1 a.size++b.extract c.2.2.2.1 b.size),c.2.1,c.2.2.1,c.2.2.2.1,c.2.2.2.2.1,c.2.2.2.2.2))
noncomputable def OG (c:MO):fh bH eR (dR MO):=do
 let d<-forIn [0:a.size+b.size] ((ah,c.2.1,c.2.2.1,c.2.2.2.1,0,0):MI) (λf d=>Ia a b c.2.2.2.2 d)
 match d.1 with
 |some r=>pure (.done (aa r,d.2.1,d.2.2.1,d.2.2.2.1,c.2.2.2.2))
 |none=>do
  liftM (rule "list.sort.gallop")
  let e<-forIn [0:a.size+b.size] ((ah,d.2.1,d.2.2.1,d.2.2.2.1,c.2.2.2.2+1,d.2.2.2.2.1,d.2.2.2.2.2):MG) (λf e=>H_ a b e)
  match e.1 with
  |some r=>pure (.done (aa r,e.2.1,e.2.2.1,e.2.2.2.1,e.2.2.2.2.1))
  |none=>do
   AC (e.2.2.2.2.1+1)
   pure (.yield (ah,e.2.1,e.2.2.1,e.2.2.2.1,e.2.2.2.2.1+1))
end
noncomputable def Pw (a b:bZ bx) (x:bx) (g:af):fh bH eR (bZ bx):=do
 let c<-forIn [0:a.size+b.size] ((ah,#[x],0,1,g):MO) (λd c=>OG a b c)
 match c.1 with|some r=>pure r|none=>unsupported "internal:list.sort.merge-bound"
theorem Ib (a b:bZ bx):zv a b=(do
  liftM (rule "list.sort.merge-lo")
  let x<-jV b 0
  if(1==b.size)=ai then pure (#[x]++a.extract 0 a.size++b.extract 1 b.size)else if(0+1==a.size)=ai then pure (#[x]++b.extract 1 b.size++a.extract 0 a.size)else do
   let st<-get
   Pw a b x (gallopOf st)):=by
 kernel_rfl!
noncomputable abbrev lW (st:bH) (g:af):bH:=wY (kindOf st) (eB st) (dn st) g (lR st)
structure wo (κ:KeyKind) (a b:bZ bx):Prop where
 oa:∀x∈a.toList,rG κ x
 ob:∀x∈b.toList,rG κ x
 last:∀i l,a.toList.drop i=[l]->∀y∈b.toList,dN κ y l
structure qz (κ:KeyKind) (a b:bZ bx) (m:af) (out:bZ bx) (ia ib:af):Prop where
 inv:fM (dN κ) (a.toList++b.toList) out.toList (a.toList.drop ia) (b.toList.drop ib)
 la:ia+1<a.size
 lb:ib<b.size
 lm:m<=out.size
def OH (κ:KeyKind) (a b:bZ bx) (m:af) (o:au (bZ bx)) (c:bZ bx) (d e:af):Prop:=(∃r,o=aa r/\qw (dN κ) (a.toList++b.toList) r.toList)\/(o=ah/\qz κ a b m c d e)
def OI (κ:KeyKind) (a b:bZ bx) (m:af) (st:bH) (r:dR MG) (d:bH):Prop:=(∃g,d=lW st g)/\match r with|.done c=>OH κ a b m c.1 c.2.1 c.2.2.1 c.2.2.2.1|.yield c=>c.1=ah/\qz κ a b m c.2.1 c.2.2.1 c.2.2.2.1
section
variable {U:Program} {w:fb} {A:cQ} {E:aE->aM->Prop} {s:aM} {J:KeyKind} {st:bH} {a b C:bZ bx} {I R g g' ac bc m:af} {Q:dR MG->bH->Prop}
theorem AD (a:bZ bx) (i:af):(a.extract i a.size).toList=a.toList.drop i:=by rw[gX,ja,gA (by simp)]
theorem B' (a:bZ bx) (i k:af):(a.extract i (i+k)).toList=(a.toList.drop i).take k:=by rw[gX,ja,gi]
variable {L l O X Y:ae bx}
theorem pz {i:af} (h:i<(Wb l)):∃x,l[i]?=aa x/\x∈l/\l.drop i=[x]++l.drop (i+1):=dS (l[i]) (aR h) (o_ h) (cD h)
theorem gD.hd {x:bx} (h:gD J ([x]++l)):∀y∈[x]++l,dN J x y:=λy a=>by
 rcases bw.mp a with rfl|a
 ·exact ke _
 ·exact(j1.mp h).1 y a
theorem fM.sx (h:fM (dN J) L O X Y):gD J X:=(cf.mp h.s1).2.1
theorem fM.sy (h:fM (dN J) L O X Y):gD J Y:=(cf.mp h.s2).2.1
theorem yA (P:wo J a b) {L:ae bx} (h:fM (dN J) L C.toList (a.toList.drop I) (b.toList.drop R)) (c:I+1=a.size):qw (dN J) L (C++b.extract R b.size++a.extract I a.size).toList:=by rw[eE,eE,AD,AD];refine cV (pz (l:=a.toList) (i:=I) (by simp;exact#[41,c])) λx d d e=>?_;rw[cF (i:=I+1) (by simp;exact#["AnHW'41O0hwS",c]),aJ]at e;rw[e]at h⊢;exact h.last λy f=>P.last I x e y (qc f)
theorem vu (h:fM (dN J) L C.toList (a.toList.drop I) (b.toList.drop R)) (c:I=a.size\/R=b.size):qw (dN J) L (C++a.extract I a.size++b.extract R b.size).toList:=by
 rw[eE,eE,AD,AD];rcases c with rfl|rfl
 ·rw[cF (by simp)]at h⊢;rw[aJ];exact h.swap.endY
 ·rw[cF (i:=b.size) (by simp)]at h⊢;rw[aJ];exact h.endY
theorem Sd (P:wo J a b) (o:m<=C.size+1) (h:fM (dN J) (a.toList++b.toList) C.toList (a.toList.drop I) (b.toList.drop R)) (j:I+1<a.size) (p:R<b.size) (q:∀x,a.toList[I]?=aa x->∀y∈b.toList.drop R,dN J x y)
  (e:∀r c,OI J a b m st r c->Q r c):wpS (model U w) A E s (OF a b C I R g ac bc) Q (lW st g'):=by
 refine cV (pz (l:=a.toList) (i:=I) (by simp;exact#[87,j])) λx k B t=>?_;rw[t]at h;have f:=h.takeX λz u y v=>by rw[aL.mp u];exact q x k y v
 rw[<-fY]at f;refine bq (eP k ?_);by_cases d:I+1+1=a.size
 ·rw[aF (by simpa using d)];exact bI (e _ _ ⟨⟨_,rfl⟩,.inl (aY _ rfl (yA P f d))⟩)
 ·rw[aG (by simpa using d)];have n:qz J a b m (C.push x) (I+1) R:=⟨f,#[141,bW #[158,j] d],p,by rw[lK];exact o⟩
  split
  ·exact bI (e _ _ ⟨⟨_,rfl⟩,.inr ⟨rfl,n⟩⟩)
  ·exact bI (e _ _ (dy ⟨_,rfl⟩ rfl n))
theorem JG (L:J.OneLt) (M:kindOf st=oneType') (P:wo J a b) (D:m<=C.size) (h:fM (dN J) (a.toList++b.toList) C.toList (a.toList.drop I) (b.toList.drop R)) (F:I+1<a.size) (p:R<b.size) (N:∀x,b.toList[R]?=aa x->∀y∈a.toList.drop I,dN J x y)
  (t:∀r j,OI J a b m st r j->Q r j):wpS (model U w) A E s (Sb a b C I R g ac bc) Q (lW st g'):=by
 refine cV (pz (l:=b.toList) (by simp;exact p)) λx G u0 O=>?_;rw[O]at h;have f:=h.takeY λz d y S=>by rw[aL.mp d];exact N x G y S
 rw[<-fY]at f;refine bq (eP G ?_);by_cases n:R+1=b.size
 ·rw[aF (by simpa using n)];exact bI (t _ _ ⟨⟨_,rfl⟩,.inl (aY _ rfl (vu f (.inr n)))⟩)
 ·rw[aG (by simpa using n)];refine cV (pz (l:=a.toList) (i:=I) (by simp;exact#[87,F])) λy f1 f2 H=>?_;refine bq (eP f1 ?_);refine bq (mS L M (aJ _).symm (by simp) #["2M,{{KY|WV9xgYwxy",d8 _ _,bW #[59,p] n] f.sy (λz d=>P.ob z (qc d)) (P.oa y f2) λk T V u v W X Y=>?_);have hd:b.toList.drop (R+1+k)=V:=by rw[<-fA,u,<-v,kL]
  have cont:∀o bc,m<=o.size+1->o.toList=(C.push x).toList++T->wpS (model U w) A E s (if(R+1+k==b.size)=ai then pure (.done (aa (o++a.extract I a.size++b.extract (R+1+k) b.size),o,I,R+1+k,g,ac,k))else OF a b o I (R+1+k) g ac bc) Q (lW st g'):=λo bc Z o2=>by
   have K:fM (dN J) (a.toList++b.toList) o.toList (a.toList.drop I) (b.toList.drop (R+1+k)):=by rw[o2,hd];rw[u]at f;exact f.takeY λz d q B=>(X z d).trans (gD.hd (H▸f.sx) q (H▸B))
   by_cases c:R+1+k=b.size
   ·rw[aF (by simpa using c)];exact bI (t _ _ ⟨⟨_,rfl⟩,.inl (aY _ rfl (vu K (.inr c)))⟩)
   ·rw[aG (by simpa using c)];exact Sd P Z K F #["288:7{t3v=&fQH0",bW #["1OfBF9brTB51|~No2}e",W,ag #[59,p]] c] (λz d q B=>by rw[f1]at d;cases d;exact Y q (hd▸B)) t
  dsimp only;by_cases e:k>0
  ·rw[aF e];exact cont _ _ (by simp;exact#[147,D]) (by rw[eE,B',u,<-v,kM])
  ·rw[aG e];obtain rfl:k=0:=aB #[190,e] #[4];have:=cont (C.push x) 0 (by simp;exact#[164,D]) (by rw[dD v,aJ])
   rwa [t7,aG (by simpa using n)]at this
theorem JH (o:J.OneLt) (p:kindOf st=oneType') (P:wo J a b) (h:qz J a b m C I R) (j:∀r i,OI J a b m st r i->Q r i):wpS (model U w) A E s (Sc a b C I R g ac bc) Q (lW st g'):=by
 obtain⟨h,t,u,G⟩:=h;refine cV (pz (l:=b.toList) (by simp;exact u)) λx H N K=>?_;refine bq (iG (bq (eP H ?_)));refine bq (mS o p (aJ _).symm (by simp) #["GVKm?UdV>._`3W'",t,d8 _ _] h.sx (λz e=>P.oa z (qc e)) (P.ob x N) λk L O v B S T V=>?_);have hd:a.toList.drop (I+k)=O:=by rw[<-fA,v,<-B,kL]
 have f:fM (dN J) (a.toList++b.toList) (C.toList++L) (a.toList.drop (I+k)) (b.toList.drop R):=by rw[hd];rw[v]at h;exact h.takeX λz e q D=>(T z e).trans (gD.hd (K▸h.sy) q (K▸D))
 have M:∀z,b.toList[R]?=aa z->∀y∈a.toList.drop (I+k),dN J z y:=λz e q D=>by rw[H]at e;cases e;exact V q (hd▸D)
 dsimp only;by_cases d:k>0
 ·have W:(C++a.extract I (I+k)).toList=C.toList++L:=by rw[eE,B',v,<-B,kM]
  rw[aF d];rw[<-W]at f;by_cases n:I+k+1=a.size
  ·rw[aF (by simpa using n)];exact bI (j _ _ ⟨⟨_,rfl⟩,.inl (aY _ rfl (yA P f n))⟩)
  ·rw[aG (by simpa using n)];by_cases c:I+k=a.size
   ·rw[aF (by simpa using c)];exact bI (j _ _ ⟨⟨_,rfl⟩,.inl (aY _ rfl (vu f (.inl c)))⟩)
   ·rw[aG (by simpa using c)];exact JG o p P (by simp;exact#[185,G]) f (lz (gO n) (λF=>#["2oyW(|;%D7uPAD8",F]) (λF=>#["I?p|hsG>Tpu)fX&$N8A{",F,bW #["'fm?!:`N|t?$5TE",S,ag #["4fR.zFMWkm",t]] c])) u M j
 ·rw[aG d];obtain rfl:k=0:=aB #[190,d] #[4];rw[dD B,aJ]at f;exact JG o p P G f t u M j
end
section
variable {R:Program} {w:fb} {A:cQ} {E:aE->aM->Prop} {s:aM} {C:KeyKind} {J:bH} {a b U:bZ bx} {ia ib g g' ac bc m:af}
theorem fM.start {X Y:ae bx} (a:gD C X) (b:gD C Y):fM (dN C) (X++Y) [] X Y:=⟨a,b,.refl _⟩
theorem Px (F:C.OneLt) (G:kindOf J=oneType') (P:wo C a b) {c:MI} (H:c.1=ah) (h:qz C a b m c.2.1 c.2.2.1 c.2.2.2.1) {Q:dR MI->bH->Prop}
  (e:∀r,(match r with|.done c=>OH C a b (m+1) c.1 c.2.1 c.2.2.1 c.2.2.2.1|.yield c=>c.1=ah/\qz C a b (m+1) c.2.1 c.2.2.1 c.2.2.2.1)->Q r J):wpS (model R w) A E s (Ia a b g c) Q J:=by
 clear H;obtain⟨K,U,ia,ib,ac,bc⟩:=c;dsimp only at h;obtain⟨h,n,o,B⟩:=h;refine cV (pz (l:=b.toList) (by simp;exact o)) λx D I p=>?_;refine cV (pz (l:=a.toList) (i:=ia) (by simp;exact#[87,n])) λy f1 f2 t=>?_;unfold Ia;dsimp only;refine bq (eP D (bq (eP f1 ?_)));refine bq (vt F G (P.ob x I) (P.oa y f2) ?_);dsimp only;cases f:C.blt (kv C x) (kv C y)with
 |true=>
  rw[aF rfl];have j:fM (dN C) (a.toList++b.toList) (U.push x).toList (a.toList.drop ia) (b.toList.drop (ib+1)):=by rw[p]at h;rw[fY];exact h.takeY λz u q v=>by rw[aL.mp u];exact dN.trans (jr f) (gD.hd (t▸h.sx) q (t▸v))
  refine bq (eP D ?_);by_cases d:ib+1=b.size
  ·rw[aF (by simpa using d)];exact bI (e _ (.inl (aY _ rfl (vu j (.inr d)))))
  ·rw[aG (by simpa using d)];have k:qz C a b (m+1) (U.push x) ia (ib+1):=⟨j,n,#["`y>Dix$zJ{)",bW #[59,o] d],by rw[lK];exact#[26,B]⟩
   split
   ·exact bI (e _ (.inr ⟨rfl,k⟩))
   ·exact bI (e _ ⟨rfl,k⟩)
 |false=>
  rw[aG (by simp)];have j:fM (dN C) (a.toList++b.toList) (U.push y).toList (a.toList.drop (ia+1)) (b.toList.drop ib):=by rw[t]at h;rw[fY];exact h.takeX λz u q v=>by rw[aL.mp u];exact dN.trans f (gD.hd (p▸h.sy) q (p▸v))
  refine bq (eP f1 ?_);by_cases d:ia+1+1=a.size
  ·rw[aF (by simpa using d)];exact bI (e _ (.inl (aY _ rfl (yA P j d))))
  ·rw[aG (by simpa using d)];have k:qz C a b (m+1) (U.push y) (ia+1) ib:=⟨j,#[141,bW #[158,n] d],o,by rw[lK];exact#[26,B]⟩
   split
   ·exact bI (e _ (.inr ⟨rfl,k⟩))
   ·exact bI (e _ ⟨rfl,k⟩)
theorem Me (l:C.OneLt) (o:kindOf J=oneType') (P:wo C a b) {n:af} {e:MG} (u:e.1=ah) (h:qz C a b m e.2.1 e.2.2.1 e.2.2.2.1) {Q:MG->bH->Prop} (p:∀e g,OH C a b m e.1 e.2.1 e.2.2.1 e.2.2.2.1->Q e (lW J g)):
  wpS (model R w) A E s (forIn [0:n] e λq e=>H_ a b e) Q (lW J g'):=by
 refine f0 (I:=λ_ (e:MG) d=>(∃g,d=lW J g)/\e.1=ah/\qz C a b m e.2.1 e.2.2.1 e.2.2.2.1) (λx e d q q j=>?_) (λe d j=>?_) (dy ⟨g',rfl⟩ u h)
 ·refine iK j ?_;clear j;intro f t k;refine ck f ?_;clear f;intro g f;refine dq f ?_;unfold H_;have fin:∀r d,OI C a b m J r d->(match r with|.done c=>Q c d|.yield c=>(∃g,d=lW J g)/\c.1=ah/\qz C a b m c.2.1 c.2.2.1 c.2.2.2.1):=λr d i=>by
   refine dp i ?_;clear i;intro f i;obtain⟨g,rfl⟩:=f;induction r using ku with|done c=>exact p c g i|yield c=>exact⟨⟨g,rfl⟩,i⟩
  split
  ·exact JH l o P k λr d i=>by have:=fin r d i;cases r<;>exact this
  ·exact JH l o P k λr d i=>by have:=fin r d i;cases r<;>exact this
 ·refine iK j ?_;clear j;intro f t k;refine ck f ?_;clear f;intro g f;refine dq f ?_;exact p e g (.inr ⟨t,k⟩)
theorem Mf (u:C.OneLt) (p:kindOf J=oneType') (P:wo C a b) {n:af} {e:MI} (v:0<n) (y:e.1=ah) (h:qz C a b m e.2.1 e.2.2.1 e.2.2.2.1) {Q:MI->bH->Prop} (t:∀e,OH C a b (m+1) e.1 e.2.1 e.2.2.1 e.2.2.2.1->Q e J):
  wpS (model R w) A E s (forIn [0:n] e λl e=>Ia a b g e) Q J:=by
 refine f0 (I:=λx (e:MI) d=>d=J/\e.1=ah/\qz C a b m e.2.1 e.2.2.1 e.2.2.2.1/\(0<x->m+1<=e.2.1.size)) (λx e d l l j=>?_) (λe d j=>?_) (jB rfl y h (λq=>bJ q (ly _)))
 ·refine lD j ?_;clear j;intro f o k _;refine dq f ?_;refine Px u p P o k λr i=>?_;induction r using ku with|done c=>exact t c i|yield c=>exact jB rfl i.1 ⟨i.2.inv,i.2.la,i.2.lb,by have:=i.2.lm;exact#[9,this]⟩ (λl=>i.2.lm)
 ·refine lD j ?_;clear j;intro f o k z;clear p;refine dq f ?_;exact t e (.inr ⟨o,k.inv,k.la,k.lb,z #[165,v,kW _ _]⟩)
theorem Mg (l:C.OneLt) (n:kindOf J=oneType') (P:wo C a b) {c:MO} (h:qz C a b m c.2.1 c.2.2.1 c.2.2.2.1) {Q:dR MO->bH->Prop}
  (i:∀r g,(match r with|.done c=>∃r,c.1=aa r/\qw (dN C) (a.toList++b.toList) r.toList|.yield c=>c.1=ah/\qz C a b (m+1) c.2.1 c.2.2.1 c.2.2.2.1)->Q r (lW J g)):wpS (model R w) A E s (OG a b c) Q (lW J g'):=by
 refine bq (Mf (J:=lW J g') l n P (by have:=h.la;exact#["r~>ja%<4!T0",this]) rfl h λd hd=>?_);rcases hd with⟨r,f,j⟩|⟨f,k⟩
 ·rw[f];exact bI (i _ _ (aY r rfl j))
 ·rw[f];refine bq (qX (iH ⟨rfl,?_⟩));refine bq (Me l n P rfl k λe g o=>?_);rcases o with⟨r,f,j⟩|⟨f,k⟩
  ·rw[f];exact bI (i _ _ (aY r rfl j))
  ·rw[f];exact bq (iG (bI (i _ _ ⟨rfl,k⟩)))
theorem qz.lt (h:qz C a b m U ia ib):U.size<a.size+b.size:=by have:=h.inv.pm.length_eq;simp only[ar,cj,cK]at this;have:=h.la;have:=h.lb;exact#["5*U'xgsh++4AE`J^Yl,Au<y>^Q(;yL7JuUY",(by assumption),(by assumption),this,d8 _ _,d8 _ _]
theorem Ic (B:C.OneLt) (D:kindOf J=oneType') (P:wo C a b) (F:gD C a.toList) (G:gD C b.toList) (o:0<a.size) (i:0<b.size) (H:∀x,b.toList[0]?=aa x->∀y∈a.toList,dN C x y) {Q:bZ bx->bH->Prop}
  (p:∀r g,qw (dN C) (a.toList++b.toList) r.toList->Q r (lW J g)):wpS (model R w) A E s (zv a b) Q J:=by
 refine cV (pz (l:=b.toList) (by simpa using i)) λx u O v=>?_;rw[gB]at v;have t:fM (dN C) (a.toList++b.toList) (#[x]:bZ bx).toList (a.toList.drop 0) (b.toList.drop 1):=by have h:=fM.start F G;refine fM.takeY (by rw[<-v];exact h) λz K q L=>?_;rw[aL.mp K];exact H x u q L
 rw[Ib];refine bq (qX (iH ⟨rfl,bq (eP u ?_)⟩));by_cases k:1=b.size
 ·rw[aF (eh.mpr k)];exact bI (p _ _ (vu t (.inr k)))
 rw[aG λq=>k (eq_of_beq q)];by_cases m:0+1=a.size
 ·rw[aF (eh.mpr m)];exact bI (p _ _ (yA P t m))
 rw[aG λq=>m (eq_of_beq q)];refine bq (mX ?_);refine(bq (f0 (I:=λx (c:MO) e=>(∃g,e=lW J g)/\c.1=ah/\qz C a b (1+x) c.2.1 c.2.2.1 c.2.2.2.1) (λx c e M M j=>?_) (λc e j=>?_) ⟨⟨_,rfl⟩,rfl,t,by show 0+1<_;exact#["TGx1~,aY%e'",bW #["2c:+<wYO_{",o] m],by show 1<_;exact#[43,bW #[11,i] k],by simp⟩))
 ·refine iK j ?_;clear j;intro d _ n;refine ck d ?_;clear d;intro g d;refine dq d ?_;refine Mg B D P n λr g f=>?_;induction r using ku with|done c=>refine ba f ?_;clear f;intro r f N;dsimp only;rw[f];exact bI (p _ _ N)|yield c=>exact dy ⟨g,rfl⟩ f.1 (by rw[<-iJ];exact f.2)
 ·refine iK j ?_;clear j;intro d _ n;refine ck d ?_;clear d;intro g d;have:=n.lt;have:=n.lm;omega
end
abbrev HG:=au (bZ bx)×af×af×bZ bx×af×af×af
abbrev HI:=au (bZ bx)×af×af×bZ bx×af×af
abbrev HO':=au (bZ bx)×af×af×bZ bx×af
section
variable (a b:bZ bx)
noncomputable def Se (d nb:af) (c:bZ bx) (g ac bc:af):fh bH eR (dR HG):=do
 let y<-jV a (d-1)
 if(d-1==0)=ai then pure (.done (aa (a.extract 0 (d-1)++b.extract 0 nb++(c.push y).reverse),d-1,nb,c.push y,g,ac,bc))
 else if(ac<7&&bc<7)=ai then pure (.done (ah,d-1,nb,c.push y,g,ac,bc))else pure (.yield (ah,d-1,nb,c.push y,g,ac,bc))
noncomputable def Sf (d nb:af) (c:bZ bx) (g ac bc:af):fh bH eR (dR HG):=do
 let x<-jV b (nb-1)
 if(nb-1==1)=ai then pure (.done (aa (b.extract 0 (nb-1)++a.extract 0 d++(c.push x).reverse),d,nb-1,c.push x,g,ac,bc))
 else do
  let y<-jV a (d-1)
  let k<-n_ ai y b 0 (nb-1) (nb-1-1)
  match k with
  |some k=>if nb-1-k>0 then(if(k==1)=ai then pure (.done (aa (b.extract 0 k++a.extract 0 d++(c.push x++(b.extract k (nb-1)).reverse).reverse),d,k,c.push x++(b.extract k (nb-1)).reverse,g,ac,nb-1-k))
    else if(k==0)=ai then pure (.done (aa (a.extract 0 d++b.extract 0 k++(c.push x++(b.extract k (nb-1)).reverse).reverse),d,k,c.push x++(b.extract k (nb-1)).reverse,g,ac,nb-1-k))
    else Se a b d k (c.push x++(b.extract k (nb-1)).reverse) g ac (nb-1-k))else Se a b d (nb-1) (c.push x) g ac (nb-1-k)
  |_=>pure (.done (aa (a.extract 0 d++b.extract 0 (nb-1)++(c.push x).reverse),d,nb-1,c.push x,g,ac,bc))
noncomputable def Sg (d nb:af) (c:bZ bx) (g ac bc:af):fh bH eR (dR HG):=do
 AC g
 let x<-jV b (nb-1)
 let k<-n_ aD x a 0 d (d-1)
 match k with
 |some k=>if d-k>0 then(if(k==0)=ai then pure (.done (aa (a.extract 0 k++b.extract 0 nb++(c++(a.extract k d).reverse).reverse),k,nb,c++(a.extract k d).reverse,g,d-k,bc))
   else Sf a b k nb (c++(a.extract k d).reverse) g (d-k) bc)else Sf a b d nb c g (d-k) bc
 |_=>pure (.done (aa (a.extract 0 d++b.extract 0 nb++c.reverse),d,nb,c,g,ac,bc))
noncomputable def Ie (c:HG):fh bH eR (dR HG):=
 if c.2.2.2.2.1>1 then Sg a b c.2.1 c.2.2.1 c.2.2.2.1 (c.2.2.2.2.1-1) c.2.2.2.2.2.1 c.2.2.2.2.2.2 else Sg a b c.2.1 c.2.2.1 c.2.2.2.1 c.2.2.2.2.1 c.2.2.2.2.2.1 c.2.2.2.2.2.2
noncomputable def Ig (g:af) (c:HI):fh bH eR (dR HI):=do
 let x<-jV b (c.2.2.1-1)
 let y<-jV a (c.2.1-1)
 let r<-lt' x y
 match r with
 |some r=>
  if r=ai then(do
   let y<-jV a (c.2.1-1)
   if(c.2.1-1==0)=ai then pure (.done (aa (a.extract 0 (c.2.1-1)++b.extract 0 c.2.2.1++(c.2.2.2.1.push y).reverse),c.2.1-1,c.2.2.1,c.2.2.2.1.push y,c.2.2.2.2.1+1,0))
   else if c.2.2.2.2.1+1>=g then pure (.done (ah,c.2.1-1,c.2.2.1,c.2.2.2.1.push y,c.2.2.2.2.1+1,0))else pure (.yield (ah,c.2.1-1,c.2.2.1,c.2.2.2.1.push y,c.2.2.2.2.1+1,0)))
  else(do
   let x<-jV b (c.2.2.1-1)
   if(c.2.2.1-1==1)=ai then pure (.done (aa (b.extract 0 (c.2.2.1-1)++a.extract 0 c.2.1++(c.2.2.2.1.push x).reverse),c.2.1,c.2.2.1-1,c.2.2.2.1.push x,0,c.2.2.2.2.2+1))
   else if c.2.2.2.2.2+1>=g then pure (.done (ah,c.2.1,c.2.2.1-1,c.2.2.2.1.push x,0,c.2.2.2.2.2+1))else pure (.yield (ah,c.2.1,c.2.2.1-1,c.2.2.2.1.push x,0,c.2.2.2.2.2+1)))
 |_=>pure (.done (aa (a.extract 0 c.2.1++b.extract 0 c.2.2.1++c.2.2.2.1.reverse),c.2.1,c.2.2.1,c.2.2.2.1,c.2.2.2.2.1,c.2.2.2.2.2))
noncomputable def OJ (c:HO'):fh bH eR (dR HO'):=do
 let d<-forIn [0:a.size+b.size] ((ah,c.2.1,c.2.2.1,c.2.2.2.1,0,0):HI) (λf d=>Ig a b c.2.2.2.2 d)
 match d.1 with
 |some r=>pure (.done (aa r,d.2.1,d.2.2.1,d.2.2.2.1,c.2.2.2.2))
 |none=>do
  liftM (rule "list.sort.gallop")
  let e<-forIn [0:a.size+b.size] ((ah,d.2.1,d.2.2.1,d.2.2.2.1,c.2.2.2.2+1,d.2.2.2.2.1,d.2.2.2.2.2):HG) (λf e=>Ie a b e)
  match e.1 with
  |some r=>pure (.done (aa r,e.2.1,e.2.2.1,e.2.2.2.1,e.2.2.2.2.1))
  |none=>do
   AC (e.2.2.2.2.1+1)
   pure (.yield (ah,e.2.1,e.2.2.1,e.2.2.2.1,e.2.2.2.2.1+1))
end
noncomputable def Py (a b:bZ bx) (x:bx) (g:af):fh bH eR (bZ bx):=do
 let c<-forIn [0:a.size+b.size] ((ah,a.size-1,b.size,#[x],g):HO') (λd c=>OJ a b c)
 match c.1 with|some r=>pure r|none=>unsupported "internal:list.sort.merge-bound"
theorem Ih (a b:bZ bx):zw a b=(do
  liftM (rule "list.sort.merge-hi")
  let x<-jV a (a.size-1)
  if(a.size-1==0)=ai then pure (a.extract 0 (a.size-1)++b.extract 0 b.size++#[x].reverse)else if(b.size==1)=ai then pure (b.extract 0 b.size++a.extract 0 (a.size-1)++#[x].reverse)else do
   let st<-get
   Py a b x (gallopOf st)):=by
 kernel_rfl!
def xf (κ:KeyKind) (p q:bx):Prop:=dN κ q p
noncomputable abbrev rt (l:ae bx) (n:af):ae bx:=(l.take n).reverse
structure xG (κ:KeyKind) (a b:bZ bx):Prop where
 oa:∀x∈a.toList,rG κ x
 ob:∀x∈b.toList,rG κ x
 sa:gD κ a.toList
 sb:gD κ b.toList
 first:∀x,b.toList[0]?=aa x->∀y∈a.toList,dN κ x y
structure qA (κ:KeyKind) (a b:bZ bx) (m na nb:af) (out:bZ bx):Prop where
 inv:fM (xf κ) (a.toList++b.toList) out.toList (rt a.toList na) (rt b.toList nb)
 la:0<na
 la':na<=a.size
 lb:1<nb
 lb':nb<=b.size
 lm:m<=out.size
def OL (κ:KeyKind) (a b:bZ bx) (m:af) (o:au (bZ bx)) (d nb:af) (c:bZ bx):Prop:=(∃r,o=aa r/\qw (dN κ) (a.toList++b.toList) r.toList)\/(o=ah/\qA κ a b m d nb c)
def OM (κ:KeyKind) (a b:bZ bx) (m:af) (st:bH) (r:dR HG) (d:bH):Prop:=(∃g,d=lW st g)/\match r with|.done c=>OL κ a b m c.1 c.2.1 c.2.2.1 c.2.2.2.1|.yield c=>c.1=ah/\qA κ a b m c.2.1 c.2.2.1 c.2.2.2.1
section
variable {prog:Program} {w:fb} {A:cQ} {E:aE->aM->Prop} {s:aM} {U:KeyKind} {st:bH} {a b C:bZ bx} {J I g g' ac bc m:af} {Q:dR HG->bH->Prop}
variable {L l:ae bx} {n:af}
theorem qw.rev {O:ae bx} (h:qw (xf U) L O.reverse):qw (dN U) L O:=⟨mh.mp h.1,(gE O).symm.trans h.2⟩
theorem uw (b:0<n) (h:n<=(Wb l)):∃x,l[n-1]?=aa x/\x∈l/\rt l n=[x]++rt l (n-1):=by refine ck (⟨n-1,aB #[27,d8 _ _] #[29,ag #[11,b]]⟩:∃k,n=k+1) λk a=>?_;clear b;obtain rfl:=a;refine dS (l[k]) (aR _) (o_ _) ?_;show(l.take (k+1)).reverse=[l[k]]++(l.take k).reverse;rw[yZ,aR #["4fR<a>!3R+",h],ir];rfl
theorem DZ (f:gD U l) {x:bx} (c:l[n-1]?=aa x):∀y∈rt l n,dN U y x:=λy d=>by
 refine ck (dK.mp (dE.mp d)) λi e=>?_;refine ck (aP.mp e) λb a=>?_;clear e d;refine dH a ?_;refine ck (aP.mp c) λg a=>?_;clear c;obtain rfl:=a;rw[bR]at b;rw[List.getElem_take];rcases gN i (n-1)with q|q
 ·exact i_.mp f i (n-1) _ _ q
 ·have:i=n-1:=aB #[121,b,d8 _ _,cZ _ _] #[1,q];clear b q;subst this;exact ke _
theorem yB (a:bZ bx) (n:af):(a.extract 0 n).toList=a.toList.take n:=by rw[gX,ja,gB,t8]
theorem Ha (a:bZ bx) (k n:af):(a.extract k n).reverse.toList=((a.toList.take n).drop k).reverse:=by rw[qd,gX,ja,vU]
theorem wq (P:xG U a b) {L:ae bx} (h:fM (xf U) L C.toList (rt a.toList J) (rt b.toList I)) (d:I=1) (e:0<b.size):qw (dN U) L (b.extract 0 I++a.extract 0 J++C.reverse).toList:=by subst d;refine cV (uw (l:=b.toList) #["A$G&Y"] (by simp;exact#[11,e])) λx f j g=>?_;have c:rt b.toList 1=[x]:=g;rw[c]at h;refine qw.rev ?_;rw[eE,eE,yB,yB,qd,ir,wZ,ir,show(b.toList.take 1).reverse=[x]from c,<-aj];exact h.swap.last λy i=>P.first x f y (mI (dE.mp i))
theorem vw (h:fM (xf U) L C.toList (rt a.toList J) (rt b.toList I)) (c:J=0\/I=0):qw (dN U) L (a.extract 0 J++b.extract 0 I++C.reverse).toList:=by
 refine qw.rev ?_;rw[eE,eE,yB,yB,qd,ir,wZ,ir];rcases c with rfl|rfl
 ·rw[show(a.toList.take 0).reverse=[]from rfl,aJ];exact h.swap.endY
 ·rw[show(b.toList.take 0).reverse=[]from rfl,eF];exact h.endY
theorem JI (o:m<=C.size+1) (h:fM (xf U) (a.toList++b.toList) C.toList (rt a.toList J) (rt b.toList I)) (p:0<J) (c:J<=a.size) (q:1<I) (f:I<=b.size) (t:∀x,a.toList[J-1]?=aa x->∀y∈rt b.toList I,dN U y x)
  (i:∀r d,OM U a b m st r d->Q r d):wpS (model prog w) A E s (Se a b J I C g ac bc) Q (lW st g'):=by
 refine cV (uw (l:=a.toList) p (by simpa using c)) λx k D u=>?_;rw[u]at h;have j:=h.takeX λz v y B=>by rw[aL.mp v];exact t x k y B
 rw[<-fY]at j;refine bq (eP k ?_);by_cases e:J-1=0
 ·rw[aF (by simpa using e)];exact bI (i _ _ ⟨⟨_,rfl⟩,.inl (aY _ rfl (vw j (.inl e)))⟩)
 ·rw[aG (by simpa using e)];have n:qA U a b m (J-1) I (C.push x):=⟨j,#[62,bW #[4] (fR e)],#[5,c,bY _ _],q,f,by rw[lK];exact o⟩
  split
  ·exact bI (i _ _ ⟨⟨_,rfl⟩,.inr ⟨rfl,n⟩⟩)
  ·exact bI (i _ _ (dy ⟨_,rfl⟩ rfl n))
theorem JJ (W:U.OneLt) (X:kindOf st=oneType') (P:xG U a b) (S:m<=C.size) (h:fM (xf U) (a.toList++b.toList) C.toList (rt a.toList J) (rt b.toList I)) (L:0<J) (f:J<=a.size) (d:1<I) (c:I<=b.size) (Y:∀x,b.toList[I-1]?=aa x->∀y∈rt a.toList J,dN U y x)
  (o:∀r p,OM U a b m st r p->Q r p):wpS (model prog w) A E s (Sf a b J I C g ac bc) Q (lW st g'):=by
 refine cV (uw (l:=b.toList) (n:=I) #[93,d] (by simpa using c)) λx T u0 Z=>?_;rw[Z]at h;have v:=h.takeY λz e y hy=>by rw[aL.mp e];exact Y x T y hy
 rw[<-fY]at v;refine bq (eP T ?_);by_cases t:I-1=1
 ·rw[aF (by simpa using t)];exact bI (o _ _ ⟨⟨_,rfl⟩,.inl (aY _ rfl (wq P v t #[82,d,c]))⟩)
 ·rw[aG (by simpa using t)];refine cV (uw (l:=a.toList) L (by simpa using f)) λy f1 f2 f3=>?_;have fy:=DZ P.sa f1;refine bq (eP f1 ?_);refine bq (mS W (R:=b.toList.drop (I-1)) X (by rw[gB,dC]) (by rw[bR,cK];exact aB #[1,cZ _ _] #[10,bP #["2%VShH&WrglhIc",c,ag #[192,d]]]) #[41,ag #["1dnG%x`R?Pe5*I",d,ag #[192,d]]] (P.sb.sublist (sH _ _)) (λz e=>P.ob z (mI e)) (P.oa y f2) λk B D F M N k4 k5=>?_);have tk:b.toList.take k=B:=by rw[show k=min k (I-1)by exact aB #[10,bP N] #[1,cZ _ _],<-qY,F,<-M,kM]
  have j:fM (xf U) (a.toList++b.toList) ((C.push x).toList++D.reverse) (rt a.toList J) (rt b.toList k):=by rw[show rt b.toList k=B.reverse by rw[<-tk]];rw[show rt b.toList (I-1)=D.reverse++B.reverse by rw[<-ir,<-F]]at v;exact v.takeY λz e q G=>dN.trans (fy q G) (k5 z (dE.mp e))
  have u:∀z,a.toList[J-1]?=aa z->∀q∈rt b.toList k,dN U q z:=λz e q G=>by rw[f1]at e;cases e;rw[show rt b.toList k=B.reverse by rw[<-tk]]at G;exact k4 q (dE.mp G)
  dsimp only;by_cases i:I-1-k>0
  ·have o2:(C.push x++(b.extract k (I-1)).reverse).toList=(C.push x).toList++D.reverse:=by rw[eE,Ha,F,<-M,kL]
   rw[<-o2]at j;rw[aF i];by_cases H:k=1
   ·rw[aF (by simpa using H)];exact bI (o _ _ ⟨⟨_,rfl⟩,.inl (aY _ rfl (wq P j H #[82,d,c]))⟩)
   ·rw[aG (by simpa using H)];by_cases K:k=0
    ·rw[aF (by simpa using K)];exact bI (o _ _ ⟨⟨_,rfl⟩,.inl (aY _ rfl (vw j (.inr K)))⟩)
    ·rw[aG (by simpa using K)];exact JI (by simp;exact#[147,S]) j L f (lz (gO t) (λV=>#[">24X';dP1r9aD*GpS",d,V,d8 _ _]) (λV=>lz (gO H) (λO=>#["HGdv`i%A",bW #["61&vJ`Y5a",O] K]) (λO=>#[43,O]))) #["CFIP>XLt%ZBrj+aG",c,N,bY _ _] u o
  ·rw[aG i];obtain rfl:k=I-1:=aB #[1,N] #[148,i,d8 _ _];have:D=[]:=by
    have:=aU fu F;rw[ar,bR,cK]at this;exact dD (aB #[122,M,this,cZ _ _] #[4])
   rw[this,Ad,aJ]at j;exact JI (by simp;exact#[164,S]) j L f #[43,bW #[149,d,d8 _ _] (fR t)] #[5,c,bY _ _] u o
theorem JK (B:U.OneLt) (D:kindOf st=oneType') (P:xG U a b) (h:qA U a b m J I C) (F:∀r i,OM U a b m st r i->Q r i):wpS (model prog w) A E s (Sg a b J I C g ac bc) Q (lW st g'):=by
 obtain⟨h,M,c,G,d,N⟩:=h;refine cV (uw (l:=b.toList) (n:=I) #[93,G] (by simpa using d)) λx H O X=>?_;have S:=DZ P.sb H;refine bq (iG (bq (eP H ?_)));refine bq (mS B (R:=a.toList.drop J) D (by rw[gB,dC]) (by rw[bR,cK];exact aB #[1,cZ _ _] #[10,bP c]) #[41,ag #[11,M]] (P.sa.sublist (sH _ _)) (λz f=>P.oa z (mI f)) (P.ob x O) λk p t u K L T V=>?_);have tk:a.toList.take k=p:=by rw[show k=min k J by exact aB #[10,bP L] #[1,cZ _ _],<-qY,u,<-K,kM]
 have j:fM (xf U) (a.toList++b.toList) (C.toList++t.reverse) (rt a.toList k) (rt b.toList I):=by rw[show rt a.toList k=p.reverse by rw[<-tk]];rw[show rt a.toList J=t.reverse++p.reverse by rw[<-ir,<-u]]at h;exact h.takeX λz f q v=>dN.trans (S q v) (V z (dE.mp f))
 have o:∀z,b.toList[I-1]?=aa z->∀q∈rt a.toList k,dN U q z:=λz f q v=>by rw[H]at f;cases f;rw[show rt a.toList k=p.reverse by rw[<-tk]]at v;exact T q (dE.mp v)
 dsimp only;by_cases e:J-k>0
 ·have W:(C++(a.extract k J).reverse).toList=C.toList++t.reverse:=by rw[eE,Ha,u,<-K,kL]
  rw[<-W]at j;rw[aF e];by_cases y:k=0
  ·rw[aF (by simpa using y)];exact bI (F _ _ ⟨⟨_,rfl⟩,.inl (aY _ rfl (vw j (.inl y)))⟩)
  ·rw[aG (by simpa using y)];exact JJ B D P (by simp;exact#[185,N]) j #[62,bW #[4] (fR y)] #[5,c,L] G d o F
 ·rw[aG e];obtain rfl:k=J:=aB #[1,L] #[148,e,d8 _ _];have:t=[]:=by
   have:=aU fu u;rw[ar,bR,cK]at this;exact dD (aB #[122,K,this,cZ _ _] #[4])
  rw[this,Ad,aJ]at j;exact JJ B D P N j M c G d o F
end
section
variable {R:Program} {w:fb} {A:cQ} {E:aE->aM->Prop} {s:aM} {C:KeyKind} {J:bH} {a b U:bZ bx} {na nb g g' ac bc m:af}
theorem PA (F:C.OneLt) (G:kindOf J=oneType') (P:xG C a b) {c:HI} (h:qA C a b m c.2.1 c.2.2.1 c.2.2.2.1) {Q:dR HI->bH->Prop}
  (i:∀r,(match r with|.done c=>OL C a b (m+1) c.1 c.2.1 c.2.2.1 c.2.2.2.1|.yield c=>c.1=ah/\qA C a b (m+1) c.2.1 c.2.2.1 c.2.2.2.1)->Q r J):wpS (model R w) A E s (Ig a b g c) Q J:=by
 obtain⟨L,na,nb,U,ac,bc⟩:=c;dsimp only at h;obtain⟨h,B,f,p,d,D⟩:=h;refine cV (uw (l:=b.toList) (n:=nb) #[93,p] (by simpa using d)) λx t H I=>?_;refine cV (uw (l:=a.toList) B (by simpa using f)) λy f1 f2 K=>?_;unfold Ig;dsimp only;refine bq (eP t (bq (eP f1 ?_)));refine bq (vt F G (P.ob x H) (P.oa y f2) ?_);dsimp only;cases j:C.blt (kv C x) (kv C y)with
 |true=>
  rw[aF rfl];have k:fM (xf C) (a.toList++b.toList) (U.push y).toList (rt a.toList (na-1)) (rt b.toList nb):=by rw[K]at h;rw[fY];exact h.takeX λz u q v=>by rw[aL.mp u];exact dN.trans (DZ P.sb t q v) (jr j)
  refine bq (eP f1 ?_);by_cases e:na-1=0
  ·rw[aF (by simpa using e)];exact bI (i _ (.inl (aY _ rfl (vw k (.inl e)))))
  ·rw[aG (by simpa using e)];have o:qA C a b (m+1) (na-1) nb (U.push y):=⟨k,#[62,bW #[4] (fR e)],#[5,f,bY _ _],p,d,by rw[lK];exact#[26,D]⟩
   split
   ·exact bI (i _ (.inr ⟨rfl,o⟩))
   ·exact bI (i _ ⟨rfl,o⟩)
 |false=>
  rw[aG (by simp)];have k:fM (xf C) (a.toList++b.toList) (U.push x).toList (rt a.toList na) (rt b.toList (nb-1)):=by rw[I]at h;rw[fY];exact h.takeY λz u q v=>by rw[aL.mp u];exact dN.trans (DZ P.sa f1 q v) j
  refine bq (eP t ?_);by_cases e:nb-1=1
  ·rw[aF (by simpa using e)];exact bI (i _ (.inl (aY _ rfl (wq P k e #[82,p,d]))))
  ·rw[aG (by simpa using e)];have o:qA C a b (m+1) na (nb-1) (U.push x):=⟨k,B,f,#[43,bW #[149,p,d8 _ _] (fR e)],#[5,d,bY _ _],by rw[lK];exact#[26,D]⟩
   split
   ·exact bI (i _ (.inr ⟨rfl,o⟩))
   ·exact bI (i _ ⟨rfl,o⟩)
theorem Mh (l:C.OneLt) (o:kindOf J=oneType') (P:xG C a b) {n:af} {e:HG} (u:e.1=ah) (h:qA C a b m e.2.1 e.2.2.1 e.2.2.2.1) {Q:HG->bH->Prop} (p:∀e g,OL C a b m e.1 e.2.1 e.2.2.1 e.2.2.2.1->Q e (lW J g)):
  wpS (model R w) A E s (forIn [0:n] e λq e=>Ie a b e) Q (lW J g'):=by
 refine f0 (I:=λ_ (e:HG) d=>(∃g,d=lW J g)/\e.1=ah/\qA C a b m e.2.1 e.2.2.1 e.2.2.2.1) (λx e d q q j=>?_) (λe d j=>?_) (dy ⟨g',rfl⟩ u h)
 ·refine iK j ?_;clear j;intro f t k;refine ck f ?_;clear f;intro g f;refine dq f ?_;unfold Ie;have fin:∀r d,OM C a b m J r d->(match r with|.done c=>Q c d|.yield c=>(∃g,d=lW J g)/\c.1=ah/\qA C a b m c.2.1 c.2.2.1 c.2.2.2.1):=λr d i=>by
   refine dp i ?_;clear i;intro f i;obtain⟨g,rfl⟩:=f;induction r using ku with|done c=>exact p c g i|yield c=>exact⟨⟨g,rfl⟩,i⟩
  split
  ·exact JK l o P k λr d i=>by have:=fin r d i;cases r<;>exact this
  ·exact JK l o P k λr d i=>by have:=fin r d i;cases r<;>exact this
 ·refine iK j ?_;clear j;intro f t k;refine ck f ?_;clear f;intro g f;refine dq f ?_;exact p e g (.inr ⟨t,k⟩)
theorem Mi (u:C.OneLt) (o:kindOf J=oneType') (P:xG C a b) {n:af} {e:HI} (v:0<n) (y:e.1=ah) (h:qA C a b m e.2.1 e.2.2.1 e.2.2.2.1) {Q:HI->bH->Prop} (p:∀e,OL C a b (m+1) e.1 e.2.1 e.2.2.1 e.2.2.2.1->Q e J):
  wpS (model R w) A E s (forIn [0:n] e λl e=>Ig a b g e) Q J:=by
 refine f0 (I:=λx (e:HI) f=>f=J/\e.1=ah/\qA C a b m e.2.1 e.2.2.1 e.2.2.2.1/\(0<x->m+1<=e.2.2.2.1.size)) (λx e f l l k=>?_) (λe f k=>?_) (jB rfl y h (λq=>bJ q (ly _)))
 ·refine lD k ?_;clear k;intro i t j _;refine dq i ?_;refine PA u o P j λr d=>?_;induction r using ku with|done c=>exact p c d|yield c=>exact jB rfl d.1 ⟨d.2.inv,d.2.la,d.2.la',d.2.lb,d.2.lb',by have:=d.2.lm;exact#[9,this]⟩ (λl=>d.2.lm)
 ·refine lD k ?_;clear k;intro i t j z;clear o;refine dq i ?_;exact p e (.inr ⟨t,j.inv,j.la,j.la',j.lb,j.lb',z #[165,v,kW _ _]⟩)
theorem Mj (l:C.OneLt) (n:kindOf J=oneType') (P:xG C a b) {c:HO'} (h:qA C a b m c.2.1 c.2.2.1 c.2.2.2.1) {Q:dR HO'->bH->Prop}
  (i:∀r g,(match r with|.done c=>∃r,c.1=aa r/\qw (dN C) (a.toList++b.toList) r.toList|.yield c=>c.1=ah/\qA C a b (m+1) c.2.1 c.2.2.1 c.2.2.2.1)->Q r (lW J g)):wpS (model R w) A E s (OJ a b c) Q (lW J g'):=by
 refine bq (Mi (J:=lW J g') l n P (by have:=h.la;have:=h.la';exact#["2(K+e4z1B{GWnG",(by assumption),this]) rfl h λd hd=>?_);rcases hd with⟨r,f,j⟩|⟨f,k⟩
 ·rw[f];exact bI (i _ _ (aY r rfl j))
 ·rw[f];refine bq (qX (iH ⟨rfl,?_⟩));refine bq (Mh l n P rfl k λe g o=>?_);rcases o with⟨r,f,j⟩|⟨f,k⟩
  ·rw[f];exact bI (i _ _ (aY r rfl j))
  ·rw[f];exact bq (iG (bI (i _ _ ⟨rfl,k⟩)))
theorem qA.lt (h:qA C a b m na nb U):U.size<a.size+b.size:=by have:=h.inv.pm.length_eq;simp only[ar,fU,bR,cK]at this;have:=h.la;have:=h.la';have:=h.lb;have:=h.lb';exact#["(qJuMtF5%;Irg30yoMkhQq",(by assumption),(by assumption),bP this]
theorem Ii (B:C.OneLt) (D:kindOf J=oneType') (P:xG C a b) (n:0<a.size) (h:0<b.size) (F:∀x,a.toList[a.size-1]?=aa x->∀y∈b.toList,dN C y x) {Q:bZ bx->bH->Prop}
  (o:∀r g,qw (dN C) (a.toList++b.toList) r.toList->Q r (lW J g)):wpS (model R w) A E s (zw a b) Q J:=by
 refine cV (uw (l:=a.toList) n (by simp)) λx t N G=>?_;have H:rt a.toList a.size=a.toList.reverse:=by unfold rt;rw[gA (by simp)]
 have u:rt b.toList b.size=b.toList.reverse:=by unfold rt;rw[gA (by simp)]
 have p:fM (xf C) (a.toList++b.toList) (#[x]:bZ bx).toList (rt a.toList (a.size-1)) (rt b.toList b.size):=by
  refine fM.takeX (O:=[]) ?_ λz K q v=>?_
  ·rw[<-G,H,u];exact⟨mh.mpr P.sa,mh.mpr P.sb,(gE _).append (gE _)⟩
  ·rw[aL.mp K];rw[u]at v;exact F x t q (dE.mp v)
 rw[Ih];refine bq (qX (iH ⟨rfl,bq (eP t ?_)⟩));by_cases j:a.size-1=0
 ·rw[aF (eh.mpr j)];exact bI (o _ _ (vw p (.inl j)))
 rw[aG λq=>j (eq_of_beq q)];by_cases k:b.size=1
 ·rw[aF (eh.mpr k)];exact bI (o _ _ (wq P p k h))
 rw[aG λq=>k (eq_of_beq q)];refine bq (mX ?_);refine(bq (f0 (I:=λx (c:HO') e=>(∃g,e=lW J g)/\c.1=ah/\qA C a b (1+x) c.2.1 c.2.2.1 c.2.2.2.1) (λx c e L L i=>?_) (λc e i=>?_) ⟨⟨_,rfl⟩,rfl,p,by show 0<a.size-1;exact#[62,bW #[4] (fR j)],by show a.size-1<=_;exact#[1,bY _ _],by show 1<b.size;exact#[43,bW #[11,h] (fR k)],bf _,by simp⟩))
 ·refine iK i ?_;clear i;intro d _ m;refine ck d ?_;clear d;intro g d;refine dq d ?_;refine Mj B D P m λr g f=>?_;induction r using ku with|done c=>refine ba f ?_;clear f;intro r f M;dsimp only;rw[f];exact bI (o _ _ M)|yield c=>exact dy ⟨g,rfl⟩ f.1 (by rw[<-iJ];exact f.2)
 ·refine iK i ?_;clear i;intro d _ m;refine ck d ?_;clear d;intro g d;have:=m.lt;have:=m.lm;omega
end
section
variable {U:Program} {w:fb} {A:cQ} {E:aE->aM->Prop} {s:aM} {κ:KeyKind} {J:bH} {a b out:bZ bx} {I nb g g' ac bc m:af}
theorem EC (base:af):∀(l:ae bx) (j:af) (arr:bZ bx) (A B C:ae bx),arr.toList=A++(B++C)->(Wb A)=base+j->(Wb B)=(Wb l)->
  ((l.zipIdx j).foldl (λa (x:bx×af)=>a.setIfInBounds (base+x.2) x.1) arr).toList=A++(l++C)
 |[],j,arr,A,B,C,h,_,c=>by rw[dD c]at h;exact h
 |p::l,j,arr,A,b::B,C,h,d,c=>by rw[List.zipIdx_cons,kh];rewrite[EC base l (j+1) (arr.setIfInBounds (base+j) p) (A++[p]) B C ?_ (by rw[ar,bj];exact aB #["Hdr)|u(EE2*bXw!",d] #["HdvZugGjm{h!yJq",d]) (f_ c),aj];rfl;rw[mR,h,<-d,mi _ _ (bf _),iz,aj];rfl
theorem PB {a b c:ae bx} {y z:bx} (n:a++b=y::c) (h:a[0]?=aa z):z=y:=by
 rcases a with _|⟨q,a⟩
 ·exact nomatch h
 ·exact(aw h).symm.trans (fB n).1
theorem Ij (hO:κ.OneLt) (hk:kindOf J=oneType') (hf:lR J=ah) {i b I nb pw:af} {Wg:af} {P X Y R:ae bx} (e1:(dn J)[i]?=aa (b,I,pw)) (e2:(dn J)[i+1]?=aa (b+I,nb,Wg)) (ha:(eB J).toList=P++(X++(Y++R))) (hP:P.length=b) (m:X.length=I) (hY:(Wb Y)=nb)
  (H:0<I) (y0:0<nb) (sx:gD κ X) (sy:gD κ Y) (ok:∀z∈X++Y,rG κ z) {Q:bD->bH->Prop}
  (hQ:∀o Z,(eB o).toList=P++(Z++R)->gD κ Z->Z.Perm (X++Y)->kindOf o=kindOf J->lR o=ah->dn o=((dn J).setIfInBounds i (b,I+nb,pw)).eraseIdxIfInBounds (i+1)->Q ai o):wpS (model U w) A E s (mergeAt' i) Q J:=by
 rw[Gv];refine bq (mX ?_);rw[e1,e2];have L:=λz c=>ok z (kC _ c);have M:=λz c=>ok z (eA _ c);refine pR (by induction Y using aV with
  |nil=>exact bJ hY (by simp;exactλq'=>#["GFokTGqo",y0,q'])
  |cons y t=>exact(lg y t rfl):∃y t,Y=y::t) λy t N=>?_;obtain rfl:=N
 refine pR ((lg X.dropLast (X.getLast (by intro h;rw[h]at m;simp at m;exact#["GFo76`FK",m,H])) ((mj _).symm)):∃B x,X=B++[x]) λB x N=>?_;obtain rfl:=N;have O:=gD.hd sy;have Wc:∀z∈B++[x],dN κ z x:=λz c=>by
  rcases b7.mp c with q|q
  ·exact(cf.mp sx).2.2 z q x (aL.mpr rfl)
  ·rw[aL.mp q];exact ke _
 have d1:(eB J).toList.drop b=(B++[x])++(y::t++R):=by rw[ha,<-hP,kL]
 have d2:(eB J).toList.drop (b+I)=(y::t)++R:=by rw[<-fA,d1,<-m,kL]
 have ey:(eB J).toList[b+I]?=aa y:=by rw[<-t7 (b+I),<-iU,d2];rfl
 have ex:(eB J).toList[b+I-1]?=aa x:=by
  have:b+I-1=b+(Wb B):=by rw[ar,bj]at m;exact aB #["1OIaKboQyS+=:^?(%'K",m,ag #[88,H]] #["1Np%nnFX2)x(h}PAorI",m,d8 _ _]
  rw[this,<-iU,d1,aj,be (bf _),iz];rfl
 have Wd:∀{β:Type} {f:bH} {K:PUnit->fh bH eR β} {Q:β->bH->Prop},wpS (model U w) A E s (K ⟨⟩) Q f->wpS (model U w) A E s (set f>>=K) Q J:=λh=>bq (by unfold wpS;rw[StateT.run_set];exact aW ⟨rfl,h⟩);refine Wd ?_;generalize u:sU J (((dn J).setIfInBounds i (b,I+nb,pw)).eraseIdxIfInBounds (i+1))=f;have C:kindOf f=oneType':=by rw[<-u];exact hk
 have stop:gD κ (B++[x]++y::t)->Q ai f:=λh=>by rw[<-u];exact hQ _ (B++[x]++y::t) (by rw[aj];exact ha) h (.refl _) rfl hf rfl
 refine bq (eP ey ?_);refine bq (mS hO C d1 m H sx L (M y aH) λk S F v W k3 k4 k5=>?_);dsimp only;by_cases l1:I-k=0
 ·rw[aF (by simpa using l1)];have:F=[]:=by
   have:=aU fu v;rw[m,ar]at this;exact dD (aB #["2P1fwj?_jHC6<~GK<pQ&AM3m",W,l1,this,d8 _ _] #[4])
  rw[this,aJ]at v;refine bI (stop (cf.mpr (dy sx sy (λp e q d=>?_))));rw[v]at e;exact dN.trans (k4 p e) (O q d)
 rw[aG (by simpa using l1)];rw[show b+k+(I-k)-1=b+I-1 by exact aB #["sl>QmDr+d%:xxj6a=S6o~Mp%W",ag k3,ag #[129,H,ag k3],ag #[88,H]] #["sl>QmDrGiIr.:LSm?vU|Oie?u",ag k3,ag #[129,H,ag k3],ag #[88,H]]];refine bq (eP ex ?_);refine bq (mS hO C d2 hY #[41,ag #[11,y0]] sy M (L x (eA _ (aL.mpr rfl))) λn Y1 T D n2 n3 n4 n5=>?_);dsimp only;by_cases l2:n=0
 ·rw[aF (by simpa using l2)];subst l2;have:Y1=[]:=dD n2;rw[this,eF]at D;refine bI (stop (cf.mpr (dy sx sy (λp e q d=>?_))));rw[D]at d;exact dN.trans (Wc p e) (n5 q d)
 rw[aG (by simpa using l2)];have G:((eB J).extract (b+k) (b+I)).toList=F:=by rw[gX,ja,<-fA,d1,v,aj,<-W,kL,lY,gA]<;>(have:=aU fu v;rw[m,ar]at this;(first|exact#["r`wcKEojv*q&.Sa;%2",this,d8 _ _]|exact#["r`wbIJnWI'JIvnTMJ8",this,ag #["E:<+UAN<B(z_y",this]]))
 have ty:((eB J).extract (b+I) (b+I+n)).toList=Y1:=by rw[B',d2,D,aj,<-n2,kM]
 have lx:F.length=I-k:=by have:=aU fu v;rw[m,ar]at this;exact aB #["K6X%Gb*^iEgVtPNJs'k",W,this,d8 _ _] #["K6X%o,y~;GkYJI&7dIg",W,this,ag k3]
 generalize(eB J).extract (b+k) (b+I)=V at G;generalize(eB J).extract (b+I) (b+I+n)=ay at ty;have sX:=cf.mp (v▸sx:gD κ (S++F));have sY:=cf.mp (D▸sy:gD κ (Y1++T));have mx:∀{z},z∈F->z∈B++[x]:=λh=>v▸eA _ h;have my:∀{z},z∈Y1->z∈y::t:=λh=>D▸kC _ h;have Wh:∀{z},z∈T->z∈y::t:=λh=>D▸eA _ h;have y1:∀z,ay.toList[0]?=aa z->z=y:=λz c=>by rw[ty]at c;exact PB D.symm c
 have x1:=λz c=>by
  have c:V.toList.getLast?=aa z:=by rw[sV];exact c
  rw[G]at c;have:(S++F).getLast?=aa z:=by rw[List.getLast?_append,c];rfl
  rw[<-v,List.getLast?_concat]at this;exact(aw this).symm
 have fin:∀(r:bZ bx) g,qw (dN κ) (V.toList++ay.toList) r.toList->wpS (model U w) A E s (do
   modify λs=>setArr s (r.toList.zipIdx.foldl (λa (x:bx×af)=>a.setIfInBounds (b+k+x.2) x.1) (eB s))
   return(lR (<-get)).isNone) Q (lW f g):=λr g hm=>by
  refine bq (iG (bq (mX (bI ?_))));rw[G,ty]at hm;have hl:=hm.2.length_eq;rw[ar]at hl;have hr:=EC (b+k) r.toList 0 (eB J) (P++S) (F++Y1) (T++R) (by rw[ha,v,D];simp only[aj]) (by rw[ar];exact aB #[".^*xpi_:2<F;1L1Oi",hP,W] #["D_4yx5UZ1_=^P4WE4",hP,W]) (by rw[ar,hl]);have c:gD κ (S++(r.toList++T)):=by
   refine cf.mpr (dy sX.1 (cf.mpr (dy hm.1 sY.2.1 (λp e q d=>?_))) (λp e q d=>?_))
   ·rcases b7.mp (hm.2.mem_iff.mp e)with e|e
    ·exact dN.trans (Wc p (mx e)) (n5 q d)
    ·exact sY.2.2 p e q d
   ·rcases b7.mp d with d|d
    ·rcases b7.mp (hm.2.mem_iff.mp d)with d|d
     ·exact sX.2.2 p e q d
     ·exact dN.trans (k4 p e) (O q (my d))
    ·exact dN.trans (k4 p e) (O q (Wh d))
  have Wi:(S++(r.toList++T)).Perm (B++[x]++y::t):=by rw[v,D,aj,<-aj F];exact(hm.2.append_right T).append_left S
  refine dH u ?_;rw[hf];exact hQ _ (S++(r.toList++T)) (hr.trans (by simp only[aj])) c Wi rfl hf rfl
 have We:=λz c=>L z (mx (G▸c));have Wf:=λz c=>M z (my (ty▸c));have h0:∀z,ay.toList[0]?=aa z->∀q∈V.toList,dN κ z q:=λz c q d=>by rw[y1 z c];exact k5 q (G▸d)
 have hl:∀z,V.toList[V.size-1]?=aa z->∀q∈ay.toList,dN κ q z:=λz c q d=>by rw[x1 z c];exact n4 q (ty▸d)
 have zx:0<V.size:=by rw[<-cK,G];exact#[166,lx,bW #[4] (fR l1)]
 have zy:0<ay.size:=by rw[<-cK,ty];exact#[166,n2,bW #[4] (fR l2)]
 split
 ·refine bq (Ic hO C ⟨We,Wf,λj l hj q d=>?_⟩ (G▸sX.2.1) (ty▸sY.1) zx zy h0 fin);refine hl l ?_ q d;have:=aU fu hj;rw[cj,cK,bj]at this;rw[show V.size-1=j+0 by omega,<-iU,hj];rfl
 ·exact bq (Ii hO C ⟨We,Wf,G▸sX.2.1,ty▸sY.1,h0⟩ zx zy hl fin)
end
section
variable {J:Type} {I:bZ J} {A B C:ae J} {x:J}
set_option tactic.hygienic true in
theorem Gw (h:I.toList=A++(B++C)) {i j:af} (a:(Wb A)=i) (b:i+(Wb B)=j):(mirror I i j ((j-i)/2)).toList=A++(B.reverse++C):=by
 have e:I.size=(Wb A)+((Wb B)+(Wb C)):=by rw[<-cK,h,ar,ar]
 have d:∀k,I[k]?=(A++(B++C))[k]?:=λk=>by rw[<-h,ft]
 refine oJ λk=>?_;rw[ft,getElem?_mirror_all #["2(29^*lrnuD7>N,wtOuvN",a,b,e],d,d];split
 ·rename_i q
  rw[be #["1yrf9A`EULN!_C+J09bC:$HF,",a,q.2,d8 _ _,d8 _ _],bM #["14`_n82b_lp'kTiEWlUJ^<l^h,XmBPS5i;mP",a,b,q.1,ag #[8,q.2],ag #[24,q.2,ag #[8,q.2]],ag #[66,a,q.2,ag #[8,q.2],ag #[24,q.2,ag #[8,q.2]]]],be #[57,a,q.1],bM (by rw[fU];exact#["CR01fwGL?__ZKCUFe{TNO=i",a,b,q.2,ag #[28,a,q.1]]),List.getElem?_reverse #["CR01fwGL?__ZKCUFe{TNO=j",a,b,q.2,ag #[28,a,q.1]]]
  congr 1;exact aB #["7*({,4)phKfs8`_sEl2W7.JDJpyy_*zp?9ROm|XWQH1Z*A;;",a,b,ag #[8,q.2],ag #[24,q.2,ag #[8,q.2]],ag #[66,a,q.2,ag #[8,q.2],ag #[24,q.2,ag #[8,q.2]]],ag #[49,b,q.1,q.2],ag #[28,a,q.1],ag #[100,a,b,q.2,ag #[49,b,q.1,q.2],ag #[28,a,q.1]]] #["7*({,3!r(G7MJtjB'1`=BEC0cA,f89$wiIn=+)y2HJ:?|O(C",a,b,ag #[8,q.2],ag #[24,q.2,ag #[8,q.2]],ag #[66,a,q.2,ag #[8,q.2],ag #[24,q.2,ag #[8,q.2]]],ag #[49,b,q.1,q.2],ag #[28,a,q.1],ag #[100,a,b,q.2,ag #[49,b,q.1,q.2],ag #[28,a,q.1]]]
 ·rename_i q
  rcases gN k i with c|c
  ·rw[bM #[56,a,c],bM #[56,a,c]]
  ·rw[be #[57,a,c],be #["CQ~^QyNzDT$'*pOm;(FA.I1",a,b,(λz=>q ⟨c,z⟩),d8 _ _],be #[57,a,c],be (by rw[fU];exact#["CQ~^QyNzDT$'*pOm;(FA.I0",a,b,(λz=>q ⟨c,z⟩),d8 _ _]),fU]
set_option tactic.hygienic true in
theorem Gx (h:I.toList=A++(B++x::C)) {src d:af} (a:(Wb A)+(Wb B)=src) (hd:d=(Wb B)):(bubble I src d).toList=A++(x::(B++C)):=by
 have i:I.size=(Wb A)+((Wb B)+((Wb C)+1)):=by rw[<-cK,h,ar,ar,aQ]
 have g:∀k,I[k]?=(A++(B++x::C))[k]?:=λk=>by rw[<-h,ft]
 refine oJ λk=>?_;rw[ft,getElem?_bubble #["r`w~N!UF~|1McT~$;<",a,i] _ #["2%VSjQLO:WmOoT",a,hd],g,g,g];split
 ·rename_i q
  rw[be #["4fR.v%+h!N",a],be #["W!X56Y2O7hh4o_`",a,d8 _ _],be #["CQ~^*Us>wHvH8~mWM*m|e}j",a,hd,q,d8 _ _],show src-(Wb A)-(Wb B)=0 by exact aB #["ieO8JGTp~eXNRk,Fm<,qk",a,ag #[30,a],ag #[142,a,ag #[30,a]]] #[4],show k-(Wb A)=0 by exact aB #["G$0QhBynU!x?lJ>fR%6YRnc,p7(LS",a,hd,q,ag #["CQ~^*Us>wHvH8~mWM*m|e}i",a,hd,q,d8 _ _],ag #[15,a,hd]] #[4]];rfl
 ·split
  ·rename_i f c
   rw[be #["13_<9i*u:FY'Cyhj^UE~iQ~SMm,u3",a,hd,c.1,d8 _ _,d8 _ _],bM #[104,a,c.2,ag #[63,c.1],ag #[44,a,hd,c.1,d8 _ _,d8 _ _]],be #["CQ~^*Us>w71RCDi0g!5'JkD",a,hd,c.1,d8 _ _],show k-(Wb A)=(k-1-(Wb A))+1 by exact aB #["6l~(Wr4SHlqqAPOB>OVUl<S",ag #[107,a,hd,c.1,d8 _ _],ag #[63,c.1],ag #[44,a,hd,c.1,d8 _ _,d8 _ _]] #["ow_UwW0W3k>{R~YNQXnKjq",ag #[107,a,hd,c.1,d8 _ _],ag #[63,c.1],ag #[44,a,hd,c.1,d8 _ _,d8 _ _]],oC,bM #[104,a,c.2,ag #[63,c.1],ag #[44,a,hd,c.1,d8 _ _,d8 _ _]]]
  ·rename_i f c
   rcases gN k (Wb A)with e|e
   ·rw[bM (by exact e),bM (by exact e)]
   ·rw[be (by exact e),be (by exact lz (gO f) (λb=>#["7lor%Y9,71BK_)W9Fi)WL016<m2",a,hd,e,b,ag #[15,a,hd]]) (λb=>#["K6X$*zig'2co_aZEj^C",a,(λz=>c ⟨b,z⟩),d8 _ _])),be (by exact e),show k-(Wb A)-(Wb B)=(k-(Wb A)-(Wb B)-1)+1 by exact aB #[27,d8 _ _] (lz (gO f) (λb=>#["1p%flkS^'v24eTkSz)%Sy2o!VWJ$A",a,hd,e,b,ag #[15,a,hd]]) (λb=>#[29,ag #[">=|sf1Ctu|obe(:pKwWw}zd!",a,(λz=>c ⟨b,z⟩),ag e,ag #["K6X%n.h_f_tBYazyM3W",a,(λz=>c ⟨b,z⟩),ag e]]])),oC,show k-(Wb A)=(k-(Wb A)-1)+1 by exact aB #[27,d8 _ _] #[29,ag #["l(M>TRIjP<Vyr)EhdY5:RzBO^TPi",a,hd,d8 _ _,d8 _ _,bW #["CQ~^*A<:o!*ZLuEV!kHFJ+a",a,hd,e,ag #[15,a,hd]] (fR f)]],oC,be (by exact lz (gO f) (λb=>#["7s>X2)y)rZ08'x80l&t^Vk'sV4}lEx93_y",a,hd,b,ag e,ag #[15,a,hd],ag #[103,a,hd,e,b,ag #[15,a,hd]]]) (λb=>#["1yrfm3FwwZY1D}Fg%YOdM|m:U",a,(λz=>c ⟨b,z⟩),d8 _ _,d8 _ _]))]
    congr 1;exact aB (lz (gO f) (λb=>#["WV5V+SnU",pM #["6YAs`m)e{",pM #["1p%fnK_.Tn!T%HL)QLP+{Fe$t.4uU",a,b,bY _ _,bY _ _,ag e]]]) (λb=>#["X85Fm7Fi$mr`l4;$7?SnXG",ag #[45,a,(λz=>c ⟨b,z⟩),ag e,ag #[14,a,(λz=>c ⟨b,z⟩),ag e]],ag #[98,a,(λz=>c ⟨b,z⟩),ag e,ag #[14,a,(λz=>c ⟨b,z⟩),ag e],ag #[45,a,(λz=>c ⟨b,z⟩),ag e,ag #[14,a,(λz=>c ⟨b,z⟩),ag e]]],ag #[105,a,(λz=>c ⟨b,z⟩),ag e,ag #[14,a,(λz=>c ⟨b,z⟩),ag e]]])) (lz (gO f) (λb=>#["7s>XFT{T%j=pp!L_6p%'?d*y=H$Q5|5G^2",a,hd,b,ag e,ag #[15,a,hd],ag #[103,a,hd,e,b,ag #[15,a,hd]]]) (λb=>#["X85Fm2t;{4!NXA'dJ!t+;k",ag #[45,a,(λz=>c ⟨b,z⟩),ag e,ag #[14,a,(λz=>c ⟨b,z⟩),ag e]],ag #[98,a,(λz=>c ⟨b,z⟩),ag e,ag #[14,a,(λz=>c ⟨b,z⟩),ag e],ag #[45,a,(λz=>c ⟨b,z⟩),ag e,ag #[14,a,(λz=>c ⟨b,z⟩),ag e]]],ag #[105,a,(λz=>c ⟨b,z⟩),ag e,ag #[14,a,(λz=>c ⟨b,z⟩),ag e]]]))
end
section
variable {prog:Program} {w:fb} {A:cQ} {E:aE->aM->Prop} {s:aM} {J:KeyKind} {U:bH} {P R:ae bx} {lo n C:af}
structure At (J:KeyKind) (U:bH) (P R:ae bx) (lo C:af):Prop where
 arr:(eB U).toList=P++R
 lo:P.length=lo
 len:R.length=C
 ok:∀x∈R,rG J x
 kind:kindOf U=oneType'
theorem At.item (h:At J U P R lo C) {i:af} (b:i<C):∃x,R[i]?=aa x/\x∈R/\(eB U).toList[lo+i]?=aa x:=by
 have a:i<R.length:=by rw[h.len];exact b
 refine dS (R[i]) (aR a) (o_ a) ?_;rw[h.arr,<-h.lo,be #[21],gi,aR a]
theorem ux (a:J.OneLt) (h:At J U P R lo C) {i j:af} (b:i<C) (c:j<C) {Q:au bD->bH->Prop} (d:∀p q,R[i]?=aa p->R[j]?=aa q->Q (aa (J.blt (kv J p) (kv J q))) U):wpS (model prog w) A E s (ltAt' (lo+i) (lo+j)) Q U:=by refine cV (h.item b) λx e f g=>?_;refine cV (h.item c) λy f1 f2 k=>?_;rw[ltAt'_eq];exact bq (mX (bq (eP g (bq (eP k (vt a h.kind (h.ok x f) (h.ok y f2) (d x y e f1)))))))
variable {l:ae bx} {x:bx}
theorem zA (h:l[n]?=aa x):l.take (n+1)=l.take n++[x]:=by rw[yZ,h];rfl
theorem Mk {y:bx} (f:0<n) (h:gD J (l.take n)) (g:l[n]?=aa x) (j:l[n-1]?=aa y) (b:dN J y x):gD J (l.take (n+1)):=by
 rw[zA g];refine cf.mpr (dy h (dJ _ _) (λz k q m=>?_));rw[aL.mp m];have e:(l.take n)[n-1]?=aa y:=by rw[eS #[42,ag #[11,f]]];exact j
 refine ck (dK.mp k) λi o=>?_;refine ck (aP.mp o) λc a=>?_;refine dH a ?_;refine ck (aP.mp e) λp a=>?_;obtain rfl:=a;have d:=c;rw[bR]at d;rcases gN i (n-1)with q|q
 ·exact dN.trans (i_.mp h i (n-1) c p q) b
 ·have:i=n-1:=by exact aB #[121,d,d8 _ _,cZ _ _] #[1,q]
  subst this;exact b
theorem JL {f:af->au (au af)×af->fh bH eR (dR (au (au af)×af))} {a:af} {Q:au (au af)×af->bH->Prop} (o:1<=a) (i:a<=C) (v:gD J (R.take a))
  (r:∀x n Q,1<=n->n<C->(∀p q,R[n]?=aa p->R[n-1]?=aa q->Q (if J.blt (kv J p) (kv J q)=ai then .done (ah,n)else .yield (ah,n+1)) U)->wpS (model prog w) A E s (f x (ah,n)) Q U)
  (h:∀n,a<=n->n<=C->gD J (R.take n)->(n=C\/∃p q,R[n]?=aa p/\R[n-1]?=aa q/\J.klt (kv J p) (kv J q))->Q (ah,n) U):wpS (model prog w) A E s (forIn [a:C] ((ah,a):au (au af)×af) f) Q U:=by
 refine f0 (I:=λx c b=>b=U/\c=(ah,x)/\gD J (R.take x)) (λx c b m j k=>?_) (λc b k=>?_) (dy rfl rfl v)
 ·refine iK k ?_;clear k;intro d g l;refine dq d ?_;obtain rfl:=g;refine r _ _ _ #[167,o,m] j λp q t u=>?_;cases e:J.blt (kv J p) (kv J q)with|true=>rw[aF rfl];exact h x m #[193,j] l (.inr (fD p q t u e))|false=>rw[aG (by simp)];exact dy rfl rfl (Mk #["9^r9SO2gmsGD",o,m] l t u e)
 ·refine iK k ?_;clear k;intro d g l;clear r;refine dq d ?_;obtain rfl:=g;rw[jJ i]at l⊢;exact h C i (bf _) l (.inl rfl)
end
section
variable {prog:Program} {w:fb} {A:cQ} {E:aE->aM->Prop} {s:aM} {C:KeyKind} {J:bH} {P R:ae bx} {lo n U:af}
structure nB (J st':bH):Prop where
 kind:kindOf st'=kindOf J
 pend:dn st'=dn J
 failed:lR st'=lR J
theorem nB.refl (J:bH):nB J J:=⟨rfl,rfl,rfl⟩
theorem nB.set {J a:bH} (h:nB J a) (b:bZ bx):nB J (setArr a b):=⟨h.kind,h.pend,h.failed⟩
theorem DI (hO:C.OneLt) {ok:af} (h:At C J P R lo U) (B:n<=U) (X:ok<=n) (hs:gD C (R.take ok)) {Q:bD->bH->Prop}
  (hQ:∀f a,nB J f->At C f P a lo U->a.Perm R->gD C (a.take n)->Q ai f):wpS (model prog w) A E s (binarySort' lo n ok) Q J:=by
 rw[binarySort'_eq];refine bq (f0 (I:=λk c f=>c=(ah,())/\nB J f/\∃a,At C f P a lo U/\a.Perm R/\gD C (a.take (min k n))) (λk c f Wc g N=>?_) (λc f N=>?_) ⟨rfl,.refl J,R,h,.refl _,?_⟩)
 ·refine G5 N ?_;clear N;intro m F a G M t;rw[bP #[193,g]]at t;refine cV (G.item (i:=k) #[83,B,g]) λx Y e2 e3=>?_;have O:=G.len
  let b:af->bD:=λi=>match a[i]? with|some y=>!C.blt (kv C x) (kv C y)|none=>aD
  have bi:∀{i y},a[i]?=aa y->b i=!C.blt (kv C x) (kv C y):=λ{i y} e=>by show(match a[i]? with|some y=>!C.blt (kv C x) (kv C y)|none=>aD)=_;rw[e]
  have S:∀i,i<k->∃y,a[i]?=aa y/\(a.take k)[i]?=aa y:=λi v=>by refine ba (G.item (i:=i) #["CFIXgoR533f4cG^l",B,g,v]) λy f1 u0=>?_;exact aY y f1 (by rw[eS v];exact f1)
  refine bq (G' (b:=b) (n:=k) (U:=0) (C:=k) (λi j T hj V=>?_) (fO _) (bf _) (λi v=>bJ v (p_ _)) (λi H Z=>bJ H (Nat.not_le_of_lt Z)) (λx l Q q=>?_) (λz l r Q q1 q2 q=>?_) λl o l2 l3=>?_)
  ·refine ba (S i #[163,T,hj]) λy f1 f2=>?_;refine ba (S j hj) λz g1 g2=>?_;rw[bi g1]at V;rw[bi f1];rw[el]at V⊢;rcases gN i j with q|q
   ·refine ck (aP.mp f2) λH m=>?_;clear f1 f2;refine dH m ?_;refine ck (aP.mp g2) λZ m=>?_;clear g1 g2;obtain rfl:=m;exact dN.trans (i_.mp t i j H Z q) (V:C.kle _ _)
   ·obtain rfl:i=j:=by exact aB #[1,T] #[1,q]
    rw[f1]at g1;cases g1;exact V
  ·dsimp only;rw[aF (bf _)];exact bI q
  ·dsimp only;rw[aG (by exactλq'=>#[91,q1,q'])];have em:(l+r)/2=l+(r-l)/2:=by exact aB #["Fb7m&g)(S!O0M(kok1&th2>qsni",fT _ _,d8 _ _,UW #[0]] #["FTzVDlh+<.DSEtTYkB+'e&LkZ<i",UW #[0],fT _ _,ag #[16,q1]]
   rw[em];refine bq (ux hO G #[83,B,g] #["5'oB(QI~zT&}p9{8YZhC*!Xoobjd~RFSVJ1",B,g,q1,q2,em,fT _ _] λp y M D=>?_);rw[Y]at M;cases M;rw[bi D]at q;dsimp only;cases e:C.blt (kv C x) (kv C y)<;>rw[e]at q<;>exact bI q
  ·dsimp only;rw[moveDown'_eq];have e4:(eB f).toList=(P++(a.take k).take l)++((a.take k).drop l++x::a.drop (k+1)):=by
    have hd:a.drop k=x::a.drop (k+1):=by refine ck (aP.mp Y) λH m=>?_;refine dH m ?_;exact cD H
    rw[<-hd,aj,<-aj ((a.take k).take l),dC,dC,G.arr]
   have W:((a.take k).take l).length=l:=by rw[bR,bR];exact aB #[1,cZ _ _] #[10,bP #[39,o,bP #[35,B,g,O]]]
   have dl:((a.take k).drop l).length=k-l:=by rw[cj,bR];exact aB #["K6X%JE9T?Ul>?RpVpwA",bP #[35,B,g,O],ag #[39,o,bP #[35,B,g,O]],ag o] #["K6X%JBU~HSp8==qxb_k",bP #[35,B,g,O],ag #[39,o,bP #[35,B,g,O]],ag o]
   have e5:=Gx e4 (src:=lo+k) (d:=lo+k-(lo+l)) (by rw[ar,W,dl,G.lo];exact aB #["36<V8DA5j2GrxCS",ag o] #["3BV,QIiPvK$Y8iW",d8 _ _]) (by rw[dl];exact aB #["r`wdIc:ikw}uq`N5Q'",ag #[168,o],ag o] #["r`wdIVeQh_nKvKKq.;",ag #[168,o],ag o]);have K:((a.take k).take l++(x::((a.take k).drop l++a.drop (k+1)))).Perm R:=by refine uO ?_ M;refine(o9.trans ?_);rw[<-aj,dC];refine(o9.symm.trans ?_);refine ck (aP.mp Y) λH m=>?_;refine dH m ?_;rw[<-cD H,dC]
   refine bq (iG (bI ⟨rfl,F.set _,_,⟨by show(bubble (eB f) (lo+k) (lo+k-(lo+l))).toList=_;rw[e5,aj],G.lo,by rw[K.length_eq,h.len],λy D=>h.ok y (K.mem_iff.mp D),F.kind.trans h.kind⟩,K,?_⟩));rw[bP #[86,g]];have tk:((a.take k).take l++(x::((a.take k).drop l++a.drop (k+1)))).take (k+1)=(a.take k).take l++(x::(a.take k).drop l):=by rw[show(a.take k).take l++(x::((a.take k).drop l++a.drop (k+1)))=((a.take k).take l++(x::(a.take k).drop l))++a.drop (k+1)by rw[aj];rfl];rw[lY (by rw[ar,aQ,W,dl];exact#["Hdr)|u(ED`!^jQk",d8 _ _]),gA (by rw[ar,aQ,W,dl];exact#["HdvZugGjn3$Q<=I",ag o])]
   rw[tk];have L:=cf.mp ((dC l (a.take k)).symm▸t:gD C ((a.take k).take l++(a.take k).drop l));have A1:∀y∈(a.take k).take l,dN C y x:=λy D=>by
    refine ck (dK.mp D) λi v=>?_;have u:i<l:=by have:=(aP.mp v).1;exact#["J:Fd~Y'.g0*.",W,this]
    rw[eS u,eS #[83,o,u]]at v;have:=l2 i u;rw[bi v,el]at this;exact this
   have A2:∀y∈(a.take k).drop l,dN C x y:=λy D=>by refine ck (dK.mp D) λi v=>?_;have u:=(aP.mp v).1;rw[iU,eS #[116,dl,u,ag o]]at v;have:=l3 (l+i) #[21] #[116,dl,u,ag o];rw[bi v,yd]at this;exact jr this
   refine cf.mpr (dy L.1 (j1.mpr ⟨A2,L.2.1⟩) (λy D z hz=>?_));rcases bw.mp hz with rfl|hz
   ·exact A1 y D
   ·exact L.2.2 y D z hz
 ·refine G5 N ?_;clear N;intro m F a G M t;refine dq m ?_;rw[kX #[92,kW _ _]]at t;exact bI (hQ f a F G M t)
 ·rcases ye ok with q|q
  ·clear X;refine dq q ?_
   match R with
   |[]=>rw[kj];exact .nil
   |[x]=>exact vV (sH _ _) (dJ _ _)
   |x::y::r=>
    refine vV (l₂:=[x]) ?_ (dJ _ _);rcases ye n with q|q
    ·clear hQ B;subst q;exact List.nil_sublist _
    ·rw[show min (max 0 1) n=1 by exact aB #["3^dEdA,Fu1I,;",jJ #[65],bP #[169,q,jJ #[65]]] #["Ak{;'c09gduu",jJ #[65],bP #[169,q,jJ #[65]]]];exact List.Sublist.refl _
  ·rw[show min (max ok 1) n=ok by exact aB #["J:FR`<r?rH!s",qe #[11,q],bP #[170,X,qe #[11,q]]] #["J:FR{=pWXy(S",qe #[11,q],bP #[170,X,qe #[11,q]]]];exact hs
end
noncomputable def D0 (lo c d:af):fh bH eR (au af):=do
 let mut n:=d
 rule "list.sort.descending-run"
 n:=n+1
 let mut neq:=0
 for _ in[n:c]do
  let aa a<-ltAt' (lo+n) (lo+n-1)|return ah
  if a then
   if neq>0 then gU (lo+n-(neq+1)) (lo+n)
   neq:=0
  else
   let aa b<-ltAt' (lo+n-1) (lo+n)|return ah
   if b then break
   neq:=neq+1
  n:=n+1
 if neq>0 then gU (lo+n-(neq+1)) (lo+n)
 gU lo (lo+n)
 for _ in[n:c]do
  let aa a<-ltAt' (lo+n) (lo+n-1)|return ah
  if a then break
  n:=n+1
 return aa n
section
variable {prog:Program} {w:fb} {A:cQ} {E:aE->aM->Prop} {s:aM} {κ:KeyKind} {st:bH} {P R:ae bx} {lo n J:af}
theorem zB (c:κ.OneLt) (h:At κ st P R lo J) {α:Type} {n:af} {Q:α->bH->Prop} {K:au bD->fh bH eR α} (a:1<=n) (b:n<J) (d:∀p q,R[n]?=aa p->R[n-1]?=aa q->wpS (model prog w) A E s (K (aa (κ.blt (kv κ p) (kv κ q)))) Q st):
  wpS (model prog w) A E s (ltAt' (lo+n) (lo+n-1)>>=K) Q st:=by
 rw[show lo+n-1=lo+(n-1)by exact aB #[67,ag #[186,a],ag a] #[68,ag #[186,a],ag a]];exact bq (ux c h b #[55,b,bY _ _] d)
theorem ED (h:At κ st P R lo J) {U V W:ae bx} (b:R=U++(V++W)) {i j:af} (c:lo+(Wb U)=i) (d:i+(Wb V)=j) {Q:dt->bH->Prop} (f:∀a,nB st a->At κ a P (U++(V.reverse++W)) lo J->Q () a):wpS (model prog w) A E s (gU i j) Q st:=by
 rw[reverseSlice'_eq];have e:=Gw (I:=eB st) (A:=P++U) (B:=V) (C:=W) (by rw[h.arr,b,aj]) (i:=i) (j:=j) (by rw[ar,h.lo];exact c) d;refine iG (f _ ⟨rfl,rfl,rfl⟩ ⟨by rw[<-aj];exact e,h.lo,?_,λx g=>h.ok x ?_,h.kind⟩)
 ·rw[<-h.len,b];simp
 ·rw[b];simpa using g
theorem nB.trans {a b c:bH} (h:nB a b) (g:nB b c):nB a c:=⟨g.kind.trans h.kind,g.pend.trans h.pend,g.failed.trans h.failed⟩
abbrev JM (κ:KeyKind) (l:ae bx):Prop:=l.Pairwise (xf κ)
def Hb (κ:KeyKind) (st:bH) (P R:ae bx) (lo J m:af) (a:bH):Prop:=∃b,nB st a/\At κ a P b lo J/\b.Perm R/\1<=m/\m<=J/\gD κ (b.take m)
variable {st':bH} {x neq:af} {U V W:ae bx}
theorem Hb.more {m:af} {a:bH} {b:ae bx} (h:Hb κ st' P b lo J m a) (c:nB st st') (d:b.Perm R):Hb κ st P R lo J m a:=by refine kn h ?_;clear h;intro e f g i j;exact kO e (c.trans f) g (i.trans d) j
theorem PC (h:At κ st P R lo J) {D W:ae bx} (b:R=D++W) (g:JM κ D) (a:(Wb D)=n) (d:1<=n) {Q:au af->bH->Prop} {f:af->au (au af)×af->fh bH eR (dR (au (au af)×af))} {K:au (au af)×af->fh bH eR (au af)}
  (i:∀st' c,At κ st' P c lo J->∀x n Q,1<=n->n<J->(∀p q,c[n]?=aa p->c[n-1]?=aa q->Q (if κ.blt (kv κ p) (kv κ q)=ai then .done (ah,n)else .yield (ah,n+1)) st')->wpS (model prog w) A E s (f x (ah,n)) Q st')
  (j:∀m,K (ah,m)=pure (aa m)) (k:∀m st',Hb κ st P R lo J m st'->Q (aa m) st'):wpS (model prog w) A E s (gU lo (lo+n)>>=λl=>forIn [n:J] ((ah,n):au (au af)×af) f>>=K) Q st:=by
 have o:n<=J:=by rw[<-h.len,b,ar];exact#["9DFcza3_1.",a]
 refine bq (ED h (U:=[]) (V:=D) (W:=W) b rfl (by show lo+0+_=_;exact aB #[159,a] #[160,a]) λst' r e=>?_);have t:(D.reverse++W).Perm R:=by rw[b];exact(gE D).append_right W
 have u:([]++(D.reverse++W)).take n=D.reverse:=by rw[eF,lY (by rw[fU];exact#[10,a]),gA (by rw[fU];exact iy a)]
 refine bq (JL (J:=κ) (R:=[]++(D.reverse++W)) d o (by rw[u];exact mh.mpr g) (i st' _ e) λm v y z l=>?_);rw[j];exact bI (k m st' (zt _ r e t #[167,d,v] y z))
structure zC (κ:KeyKind) (st:bH) (P R:ae bx) (lo J x neq:af) (st':bH) (U V W:ae bx):Prop where
 same:nB st st'
 at_:At κ st' P (U++(V++W)) lo J
 perm:(U++(V++W)).Perm R
 len:(Wb U)+(Wb V)=x
 neq:(Wb V)=neq+1
 dsc:JM κ (U++V)
 eqs:∀p∈V,∀q∈V,dN κ p q
theorem zC.turn (h:zC κ st P R lo J x neq st' U V W):JM κ (U++V.reverse):=by have c:=cf.mp h.dsc;refine cf.mpr (dy c.1 (pb λp a q b=>h.eqs q (dE.mp b) p (dE.mp a)) (λp a q b=>c.2.2 p a q (dE.mp b)))
theorem zC.rev (h:zC κ st P R lo J x neq st' U V W) {α:Type} {K:dt->fh bH eR α} {Q:α->bH->Prop}
  (e:∀a,nB st a->At κ a P (U++(V.reverse++W)) lo J->wpS (model prog w) A E s (K ()) Q a):wpS (model prog w) A E s (if neq>0 then(gU (lo+x-(neq+1)) (lo+x)>>=K)else K ()) Q st':=by
 have c:=h.len;have b:=h.neq;split
 ·exact bq (ED h.at_ rfl (by exact aB #["1O,,|_Xd<3hv2crHv`9>4je<o)",c,b,d8 _ _] #["1Pd8rE4qxiXa8K34K1i&>:T8{u",c,b,ag #[117,c,b]]) (by exact aB #["3FZkIr>m._z&vS+NO?:|z.",b,ag #[117,c,b]] #["3FZkIr>$Jt>TS^I0a;x`*_",b,d8 _ _]) λa f g=>e a (h.same.trans f) g)
 ·refine ck (lT.mp (show(Wb V)=1 by omega)) λv d=>?_;obtain rfl:=d;exact e st' h.same h.at_
theorem PD (R:ae bx):gD κ (R.take 1):=by
 rcases R with _|⟨x,r⟩
 ·exact .nil
 ·exact dJ _ _
theorem PE {R:ae bx} {a b:bx} (c:a∈R.take 1) (d:b∈R.take 1):a=b:=by
 rcases R with _|⟨x,r⟩
 ·exact(bF c).elim
 ·exact(aL.mp c).trans (aL.mp d).symm
theorem EE (Y:κ.OneLt) (h:At κ st P R lo J) (hn:n+1<=J) (t:1<=n) (hD:JM κ (R.take (n+1))) {Q:au af->bH->Prop} (hQ:∀m st',Hb κ st P R lo J m st'->Q (aa m) st'):wpS (model prog w) A E s (D0 lo J n) Q st:=by
 unfold D0;refine bq (qX (iH ⟨rfl,?_⟩));dsimp only;have fin:∀c st',(∃x neq U V W,c=((ah,x,neq):au (au af)×af×af)/\n+1<=x/\zC κ st P R lo J x neq st' U V W)->∀{f:af->au (au af)×af->fh bH eR (dR (au (au af)×af))} {K:au (au af)×af->fh bH eR (au af)},
   (∀st' T,At κ st' P T lo J->∀x n Q,1<=n->n<J->(∀p q,T[n]?=aa p->T[n-1]?=aa q->Q (if κ.blt (kv κ p) (kv κ q)=ai then .done (ah,n)else .yield (ah,n+1)) st')->wpS (model prog w) A E s (f x (ah,n)) Q st')->(∀m,K (ah,m)=pure (aa m))->
   wpS (model prog w) A E s (if c.2.2>0 then(gU (lo+c.2.1-(c.2.2+1)) (lo+c.2.1)>>=λC=>(gU lo (lo+c.2.1)>>=λC=>forIn [c.2.1:J] ((ah,c.2.1):au (au af)×af) f>>=K))else(gU lo (lo+c.2.1)>>=λC=>forIn [c.2.1:J] ((ah,c.2.1):au (au af)×af) f>>=K)) Q st':=λc st' N f K hf hK=>by
  refine CT N ?_;clear N;intro x neq U V W j u d;refine dq j ?_;refine d.rev (K:=λC=>(gU lo (lo+x)>>=λC=>forIn [x:J] ((ah,x):au (au af)×af) f>>=K)) λZ hs L=>?_;have r:=d.len;have y:(U++(V.reverse++W)).Perm R:=(((gE V).append_right W).append_left U).trans d.perm;exact PC L (D:=U++V.reverse) (W:=W) (by rw[aj]) d.turn (by rw[ar,fU];exact r) #[150,t,u] hf hK λm Wc hr=>hQ m Wc (hr.more hs y)
 refine bq (wpS_mono (f0 (I:=λx c st'=>∃neq U V W,c=(ah,x,neq)/\zC κ st P R lo J x neq st' U V W) (Q:=λc st'=>c.1=ah/\∃x neq U V W,c=(ah,x,neq)/\n+1<=x/\zC κ st P R lo J x neq st' U V W) (λx c st' u F O=>?_) (λc st' O=>?_) ?_) λc st' N=>?_)
 ·refine B4 O ?_;clear O;intro neq U V W j d;refine dq j ?_;refine pR (by
   have r:=d.len;have k:=d.neq;have B:=d.at_.len;rw[ar,ar]at B;clear d;induction W using aV with
   |nil=>simp only[cR]at B;omega
   |cons z v=>exact⟨z,v,rfl⟩:∃z v,W=z::v) λz v j=>?_;obtain rfl:=j
  have r:=d.len;have k:=d.neq;have G:=d.at_;have gz:∀p,(U++(V++z::v))[x]?=aa p->p=z:=λp y=>by rw[<-aj,be (by rw[ar];exact iy r),ar,r,iz]at y;exact(aw y).symm
  have gv:∀q,(U++(V++z::v))[x-1]?=aa q->q∈V:=λq H=>by rw[be #["2(2Al%*&RI>ncf^xd46_(",r,k,d8 _ _],bM #["2(2Bl^.&KaZo>ybTO_vcZ",r,ag #[52,t,u],ag #["2(29.kfSQ1R3fj?oU5vmk",r,k,ag #[52,t,u]]]]at H;exact bG H
  have hd:=cf.mp d.dsc;have ap:∀X:ae bx,X.length=(Wb V)->U++(X++z::v)=(U++X)++([z]++v):=λX C=>by rw[aj];rfl
  refine zB Y G (n:=x) #[150,t,u] F λp q y H=>?_;obtain rfl:=(gz p y).symm;have o:=gv q H;dsimp only;cases e:κ.blt (kv κ z) (kv κ q)with
  |true=>
   rw[aF rfl];have M:dN κ z q:=jr e;refine d.rev (K:=λC=>pure (ij (ah,x+1,0))) λZ hs L=>bI ⟨0,U++V.reverse,[z],v,rfl,hs,by rw[ap _ (by simp)]at L;exact L,by rw[<-ap _ (by simp)];exact(((gE V).append_right _).append_left U).trans d.perm,by rw[ar,fU,bj];exact aB #["HdvZb9gpl<aPzfK",r] #["Hcz82LfWjA>4ECM",r],rfl,?_,λa g b l=>by rw[aL.mp g,aL.mp l];exact ke _⟩;refine cf.mpr (dy d.turn (dJ _ _) (λa g b l=>?_));rw[aL.mp l];rcases b7.mp g with g|g
   ·exact dN.trans M (hd.2.2 a g q o)
   ·exact dN.trans M (d.eqs q o a (dE.mp g))
  |false=>
   rw[aG (by simp)];rw[show lo+x-1=lo+(x-1)by exact aB #[67,ag #[143,t,u],ag #[52,t,u]] #[68,ag #[143,t,u],ag #[52,t,u]]];refine bq (ux Y G #[55,F,bY _ _] F λq' p' S Wd=>?_);obtain rfl:=(gz p' Wd).symm;rw[H]at S;cases S;dsimp only;cases e2:κ.blt (kv κ q) (kv κ z)with
   |true=>rw[aF rfl];exact bI ⟨rfl,x,neq,U,V,_,rfl,u,d⟩
   |false=>
    rw[aG (by simp)];have qp:dN κ q z:=e;have M:dN κ z q:=e2;refine bI ⟨neq+1,U,V++[z],v,rfl,d.same,by rw[aj V];exact G,by rw[aj V];exact d.perm,by rw[ar,bj];exact aB #["HdvZugGjn3{SL'c",r] #["Hdr)|u(ED;UN2VC",r],by rw[ar,bj];exact aB #["H^_cWoZeu&`NT~g",k] #["Ha^EvRLRLElW`wq",k],?_,?_⟩
    ·rw[<-aj];refine cf.mpr (dy d.dsc (dJ _ _) (λa g b l=>?_));rw[aL.mp l];rcases b7.mp g with g|g
     ·exact dN.trans M (hd.2.2 a g q o)
     ·exact dN.trans M (d.eqs q o a g)
    ·intro a g b l;rcases b7.mp g with g|g<;>rcases b7.mp l with l|l
     ·exact d.eqs a g b l
     ·rw[aL.mp l];exact dN.trans (d.eqs a g q o) qp
     ·rw[aL.mp g];exact dN.trans M (d.eqs q o b l)
     ·rw[aL.mp g,aL.mp l];exact ke _
 ·refine B4 O ?_;clear O;intro neq U V W j d;refine dq j ?_;exact⟨rfl,_,neq,U,V,W,rfl,#["`y>Df}1LnE*",Nat.le_max_left _ _],d⟩
 ·refine cV (h.item (i:=n) #["4fR<a>!3R,",hn]) λz e1 e2 C=>?_;rw[zA e1]at hD;have hh:R=R.take n++([z]++R.drop (n+1)):=by
   refine ck (aP.mp e1) λt j=>?_;refine dH j ?_;show R=R.take n++(R[n]::R.drop (n+1));rw[<-cD t,dC]
  exact⟨0,R.take n,[z],R.drop (n+1),rfl,.refl st,hh▸h,hh▸.refl _,by rw[bR,h.len,bj];exact aB #[26,cZ _ _] #["AnJ&p5oiqDl+",bP #[9,hn]],rfl,hD,λa g b l=>by rw[aL.mp g,aL.mp l];exact ke _⟩
 ·rw[N.1];refine fin c st' N.2 (λst' T L x n Q a1 a2 a3=>?_) λm=>rfl;refine zB Y L a1 a2 λz q y H=>?_;have:=a3 z q y H;dsimp only;cases e:κ.blt (kv κ z) (kv κ q)<;>rw[e]at this<;>exact bI this
theorem Gy (K:κ.OneLt) (h:At κ st P R lo J) (h1:1<=J) {Q:au af->bH->Prop} (L:∀m st',Hb κ st P R lo J m st'->Q (aa m) st'):wpS (model prog w) A E s (countRun' lo J) Q st:=by
 rw[countRun'_eq];have refl:∀p:bx,dN κ p p:=λp=>ke _;refine bq (JL (J:=κ) (R:=R) (bf 1) h1 ?_ (λx n Q a1 a2 a3=>?_) λn g t O n4=>?_)
 ·exact PD R
 ·refine zB K h a1 a2 λp q S v=>?_;have:=a3 p q S v;dsimp only;cases e:κ.blt (kv κ p) (kv κ q)<;>rw[e]at this<;>exact bI this
 ·show wpS _ _ _ _ (if(n==J)=ai then pure (aa n)else if n>1 then(ltAt' lo (lo+n-1)>>=λx=>match x with|some y=>if y=ai then pure (aa n)else(gU lo (lo+n)>>=λu0=>D0 lo J n)|x=>pure ah)else D0 lo J n) Q st;by_cases z:n=J
  ·rw[aF (by simpa using z)];exact bI (L n st (zt R (.refl st) h (.refl _) g t O))
  rw[aG (by simpa using z)];refine eV (n4.resolve_left z) λp q S v T=>?_;have pq:dN κ p q:=jr T;have hl:=h.len;have B:∀C D,C=D++R.drop n->(Wb D)=n->(∀a∈D,∀b∈D,dN κ a b)->q∈D->JM κ (C.take (n+1)):=λC D u M N X=>by
   have Y:C[n]?=aa p:=by rw[u,be (by exact iy M),iU,<-S];congr 1;exact aB #["12}5KD,gtQZ7+{A",M,ag (iy M)] #[64]
   have o:C.take n=D:=by rw[u,<-M,kM]
   rw[zA Y,o];refine cf.mpr (dy (pb λa k b l=>N b l a k) (dJ _ _) (λa k b l=>?_));rw[aL.mp l];exact dN.trans pq (N q X a k)
  have u:R=R.take n++R.drop n:=(dC n R).symm;have o:(R.take n).length=n:=by rw[bR];exact aB #[1,cZ _ _] #[10,bP #[39,t,hl]]
  have F:q∈R.take n:=bG (i:=n-1) (by rw[eS #[42,ag g]];exact v);by_cases r:n>1
  ·rw[aF r];rw[show lo+n-1=lo+(n-1)by exact aB #[67,ag #[187,r],ag g] #[68,ag #[187,r],ag g]];refine bq (ux (i:=0) K h #["9^r9=+gPr:i`",t,r] #["2%VUEn$1OJx$.Z",t,ag g] λf q' hf G=>?_);rw[v]at G;cases G;dsimp only;cases e:κ.blt (kv κ f) (kv κ q)with
   |true=>rw[aF rfl];exact bI (L n st (zt R (.refl st) h (.refl _) g t O))
   |false=>
    rw[aG (by simp)];have qf:dN κ q f:=e;have N:∀a∈R.take n,∀b∈R.take n,dN κ a b:=λa k b l=>by
     have g1:∀c∈R.take n,dN κ f c/\dN κ c q:=λc hc=>by
      refine ck (dK.mp hc) λi H=>?_;have We:=(aP.mp H).1;have e0:(R.take n)[0]?=aa f:=by rw[eS #["GFnr.ThD",r]];exact hf
      have e1:(R.take n)[n-1]?=aa q:=by rw[eS #[42,ag g]];exact v
      refine ck (aP.mp H) λZ d=>?_;refine dH d ?_;refine ck (aP.mp e0) λi2 d=>?_;obtain rfl:=d;refine ck (aP.mp e1) λi3 d=>?_;obtain rfl:=d;have le:∀i j (H:i<(R.take n).length) (hj:j<(R.take n).length),i<=j->dN κ (R.take n)[i] (R.take n)[j]:=λi j H hj Wc=>by
       rcases gN i j with q|q
       ·exact i_.mp O i j H hj q
       ·obtain rfl:i=j:=by exact aB #[1,Wc] #[1,q]
        exact refl _
      exact⟨le _ _ i2 Z (fO _),le _ _ Z i3 #["1w~CXe*LJxjnq($~x<",o,Z,d8 _ _]⟩
     exact dN.trans (g1 a k).2 (dN.trans qf (g1 b l).1)
    refine bq (ED h (U:=[]) (V:=R.take n) (W:=R.drop n) u rfl (by show lo+0+_=_;exact aB #[159,o] #[160,o]) λst' hs h'=>?_);have Wd:([]++((R.take n).reverse++R.drop n)).Perm R:=by
     show((R.take n).reverse++R.drop n).Perm R
     conv=>rhs;rw[u]
     exact(gE _).append_right _
    refine EE K h' #[86,bW t z] g (B _ (R.take n).reverse rfl (by rw[fU,o]) (λa k b l=>N a (dE.mp k) b (dE.mp l)) (dE.mpr F)) λm I hr=>L m I (hr.more hs Wd)
  ·rw[aG r];obtain rfl:n=1:=by exact aB #["6YAs.6&Ry",r] #["HGks|T_+",g]
   refine EE K h #["2dKF:Yu7{x",bW h1 z] g (B R (R.take 1) u o (λa k b l=>?_) F) L;rw[PE k l];exact refl b
end
noncomputable def pS (κ:KeyKind) (s:af) (p:ae (af×af)) (c:ae (ae bx)):Prop:=c.rec (motive:=λa=>af->ae (af×af)->Prop) (λa p=>p=[]) (λr a d s p=>∃b,p=(s,(Wb r))::b/\0<(Wb r)/\gD κ r/\d (s+(Wb r)) b) s p
section
variable {I:KeyKind} {s n:af} {r:ae bx} {p:ae (af×af)} {C:ae (ae bx)}
theorem pS.snoc (h:pS I s p C) (c:(Wb r)=n) (f:0<n) (g:gD I r):pS I s (p++[(s+C.flatten.length,n)]) (C++[r]):=by subst c;induction C generalizing s p with|nil=>obtain rfl:=(h:p=[]);exact kO ([]) rfl f g rfl|cons q C i=>refine kn h ?_;clear h;intro j e a b d;obtain rfl:=e;refine kO (j++[(s+(q::C).flatten.length,(Wb r))]) rfl a b ?_;rw[ky,ar,<-iJ];exact i d
theorem pS.len (h:pS I s p C):(Wb p)=(Wb C)/\(Wb p)<=C.flatten.length:=by induction C generalizing s p with|nil=>refine dq (h:p=[]) ?_;exact⟨rfl,bf _⟩|cons q C c=>refine kn h ?_;clear h;intro f e a b d;refine dq e ?_;have:=c d;rw[ky,ar,aQ,aQ];exact⟨aU (·+1) this.1,jm 1 _▸ow a this.2⟩
theorem pS.two {i:af} (h:pS I s p C) (j:i+1<(Wb p)):∃(a:ae (ae bx)) (X Y:ae bx) (f:ae (ae bx)),C=a++X::Y::f/\p[i]?=aa (s+a.flatten.length,X.length)/\p[i+1]?=aa (s+a.flatten.length+X.length,(Wb Y))/\0<X.length/\0<(Wb Y)/\gD I X/\gD I Y/\
  ∀Z:ae bx,Z.length=X.length+(Wb Y)->gD I Z->pS I s ((p.set i (s+a.flatten.length,X.length+(Wb Y))).eraseIdx (i+1)) (a++Z::f):=by
 induction C generalizing i s p with
 |nil=>obtain rfl:=(h:p=[]);exact bJ j (p_ _)
 |cons X C m=>
  refine kn h ?_;clear h;intro n e b c d;obtain rfl:=e;induction i using gC with
  |zero=>clear m;induction C using aV with|nil=>obtain rfl:=(d:n=[]);exact bJ j (ly _)|cons Y f=>refine kn d ?_;clear d;intro o e q r t;obtain rfl:=e;exact⟨[],X,Y,f,rfl,rfl,rfl,b,q,c,r,λZ g k=>kO o (by rw[g];rfl) (by rw[g];exact Nat.add_pos_left b _) k (by rw[g,<-iJ];exact t)⟩
  |succ i=>
   refine xe (m d (Nat.lt_of_succ_lt_succ j)) λa u v f w x y z A B D E=>?_;have l:s+(X::a).flatten.length=s+X.length+a.flatten.length:=by rw[ky,ar,iJ]
   refine⟨X::a,u,v,f,by rw[w];rfl,by rw[l];exact x,by rw[l];exact y,z,A,B,D,λZ g k=>?_⟩;rw[l];exact kO _ rfl b c (E Z g k)
end
theorem CY {α b:Type} (f:α->b):∀(l:ae α) i,(l.eraseIdx i).map f=(l.map f).eraseIdx i
 |[],_=>rfl
 |_::_,0=>rfl
 |a::l,i+1=>aU (f a::·) (CY f l i)
noncomputable abbrev pj (e:af×af×af):af×af:=(e.1,e.2.1)
structure gV (κ:KeyKind) (L R:ae bx) (lo:af) (st:bH):Prop where
 runs:∃rs,(eB st).toList=rs.flatten++R/\rs.flatten.length=lo/\pS κ 0 ((dn st).toList.map pj) rs
 kind:kindOf st=oneType'
 failed:lR st=ah
 perm:(eB st).toList.Perm L
section
variable {U:Program} {w:fb} {A:cQ} {E:aE->aM->Prop} {s:aM} {J:KeyKind} {C:bH} {L R:ae bx} {I n:af}
theorem y9 (t:J.OneLt) (ok:∀x∈L,rG J x) (h:gV J L R I C) {i:af} (d:i+1<(dn C).size) {Q:bD->bH->Prop} (u:∀st',gV J L R I st'->(dn st').size+1=(dn C).size->Q ai st'):wpS (model U w) A E s (mergeAt' i) Q C:=by
 obtain⟨⟨T,v,y,j⟩,k,B,l⟩:=h;refine xe (j.two (by rw[az,cK];exact d)) λc X Y m a n o D F G H K=>?_;clear j;obtain rfl:=a;rw[bE,ft]at n o;refine ba (bK.mp n) λa g1 g2=>?_;obtain⟨V,W,pw⟩:=a;refine ba (bK.mp o) λa g3 p=>?_;obtain⟨b1,b2,M⟩:=a;rw[eQ]at g2 p;refine dp (eK g2) λa b=>?_;obtain rfl:=a;obtain rfl:=b;refine dp (eK p) λa b=>?_;obtain rfl:=a;obtain rfl:=b;have e:(eB C).toList=c.flatten++(X++(Y++(m.flatten++R))):=by rw[v];simp only[k9,ky,aj]
 have f:=λz N=>ok z (l.mem_iff.mp (by rw[e];exact eA _ (by rw[<-aj];exact kC _ N)));refine Ij t k B g1 g3 e rfl rfl rfl D F G H f λst' Z q O g P S r=>u st' ⟨dS (c++Z::m) ?_ ?_ ?_,P.trans k,S,?_⟩ ?_
 ·rw[q];simp only[k9,ky,aj]
 ·have:=g.length_eq;rw[<-y];simp only[k9,ky,ar]at this⊢;exact aB #["3p*f+uCwE1R36!*PL0",this] #["5O(7,n8Ryj2,{m~uoc",this]
 ·have:=K Z (by rw[g.length_eq,ar]) O;rw[eQ]at this;rw[r,pQ,mR];rw[show(((dn C).toList.set i (c.flatten.length,X.length+(Wb Y),pw)).eraseIdx (i+1)).map pj=(((dn C).toList.map pj).set i (c.flatten.length,X.length+(Wb Y))).eraseIdx (i+1)by rw[CY,Ge]];exact this
 ·refine uO ?_ l;rw[q,e];refine List.Perm.append_left _ ?_;rw[<-aj X];exact g.append_right _
 ·rw[<-cK,r,pQ,mR,List.length_eraseIdx_of_lt (by rw[uP,cK];exact d),uP,cK];exact aB #[29,ag #["2Wy|SjLJI4",d]] #[27,d8 _ _]
theorem gV.same {st':bH} {P b:ae bx} {a:af} (h:gV J L R I C) (g:nB C st') (c:At J st' P b I a) (i:(eB C).toList=P++R) (j:P.length=I) (l:b.Perm R):gV J L b I st':=by
 obtain⟨⟨k,m,d,n⟩,p,o,f⟩:=h;have e:P=k.flatten:=by have:=i.symm.trans m;exact(List.append_inj this (aB #[171,j,d] #[172,j,d])).1
 refine⟨dS k (by rw[c.arr,e]) d (by rw[g.pend];exact n),c.kind,g.failed.trans o,?_⟩;rw[c.arr];refine uO (l.append_left P) ?_;rw[<-i];exact f
theorem gV.at_ (h:gV J L R I C) (ok:∀x∈L,rG J x) {size:af} (d:(Wb L)=size):∃P,At J C P R I (size-I)/\(eB C).toList=P++R/\P.length=I/\I<=size:=by obtain⟨⟨e,a,b,i⟩,f,j,c⟩:=h;have:=c.length_eq;rw[a,ar,b,d]at this;exact kO e.flatten ⟨a,b,aB #["W!X56Y2O7hh4o__",this,d8 _ _] #[144,this,ag #[30,this]],λx g=>ok x (c.mem_iff.mp (a▸eA _ g)),f⟩ a b #[30,this]
theorem gV.push (h:gV J L R I C) {pw:af} (c:0<n) (d:n<=R.length) (e:gD J (R.take n)):gV J L (R.drop n) (I+n) (sU C ((dn C).push (I,n,pw))):=by
 obtain⟨⟨f,g,a,i⟩,j,k,l⟩:=h;have b:(R.take n).length=n:=by rw[bR];exact aB #[1,cZ _ _] #[10,bP d]
 refine⟨dS (f++[R.take n]) ?_ ?_ ?_,j,k,l⟩
 ·show(eB C).toList=_;rw[g,k9,oS,aj,dC]
 ·rw[k9,oS,ar,b,a]
 ·show pS J 0 (((dn C).push (I,n,pw)).toList.map pj) _;rw[fY,dh];have:=i.snoc b c e;rw[eQ,a]at this;exact this
theorem JN {f:af×af×af->af×af×af} (a:∀e,pj (f e)=pj e) (p:bZ (af×af×af)) (i:af):(p.modify i f).toList.map pj=p.toList.map pj:=by
 refine oJ λk=>?_;rw[bE,bE,ft,ft,Array.getElem?_modify];split
 ·rw[Option.map_map];congr 1;funext e;exact a e
 ·rfl
theorem gV.pows (h:gV J L R I C) {f:af×af×af->af×af×af} (a:∀e,pj (f e)=pj e) i:gV J L R I (sU C ((dn C).modify i f)):=by obtain⟨⟨b,c,d,g⟩,j,k,l⟩:=h;refine⟨dS b c d ?_,j,k,l⟩;rw[JN a];exact g
end
section
variable {prog:Program} {w:fb} {A:cQ} {E:aE->aM->Prop} {s:aM} {J:KeyKind} {st:bH} {L R:ae bx} {U n C:af}
theorem Hc {f:af->au dt×dt->fh bH eR (dR (au dt×dt))} {Q:au dt×dt->bH->Prop} (h:gV J L R U st)
  (j:∀x Q st',gV J L R U st'->(∀a,gV J L R U a->Q (.yield (ah,())) a/\Q (.done (ah,())) a)->wpS (model prog w) A E s (f x (ah,())) Q st') (e:∀st',gV J L R U st'->Q (ah,()) st'):wpS (model prog w) A E s (forIn [0:C] ((ah,()):au dt×dt) f) Q st:=by
 refine f0 (I:=λg c st'=>c=(ah,())/\gV J L R U st') (λx c st' g g b=>?_) (λc st' b=>?_) ⟨rfl,h⟩
 ·refine dp b ?_;clear b;intro d b;refine dq d ?_;exact j x _ st' b λa i=>⟨⟨rfl,i⟩,e a i⟩
 ·refine dp b ?_;clear b;intro d b;refine dq d ?_;exact e st' b
theorem gV.pow (h:gV J L R U st) (pw i:af):gV J L R U (sU st ((dn st).modify i λx=>(x.1,x.2.1,pw))):=h.pows (f:=λx=>(x.1,x.2.1,pw)) (λa=>rfl) i
variable {p:ae (af×af)}
theorem pS.one {s:af} {r:ae bx} (h:pS J s p [r]):gD J r:=kn h λa a a c a=>c
theorem pS.flat {s:af} {rs:ae (ae bx)} (h:pS J s p rs) (a:(Wb rs)<=1):gD J rs.flatten:=by
 rcases rs with _|⟨r,_|⟨q,rs⟩⟩
 ·exact .nil
 ·rw[oS];exact h.one
 ·exact bJ a (by simp)
theorem Sh {c:Prop} [uQ c] {a b d:af} (e:a<=d) (f:b<=d):(if c then a else b)<=d:=by split<;>assumption
theorem Hd (i:J.OneLt) (ok:∀x∈L,rG J x) {pw:af} {Q:dR (au dt×dt)->bH->Prop} (h:gV J L R U st) (f:∀d,gV J L R U d->Q (.yield (ah,())) d/\Q (.done (ah,())) d):
  wpS (model prog w) A E s (do
   let g<-get
   match if(dn g).size>1 then(dn g)[(dn g).size-2]? else ah with
   |some (_,_,c)=>if c<=pw then pure (vW (ah,()))else do
     let b<-mergeAt' ((dn g).size-2)
     if(!b)=ai then pure (vW (aa (),()))else pure (ij (ah,()))
   |_=>pure (vW (ah,()))) Q st:=by
 refine bq (mX ?_);by_cases hp:(dn st).size>1
 ·rw[aF hp];induction(dn st)[(dn st).size-2]? using cX with
  |none=>exact bI (f st h).2
  |some e=>
   obtain⟨a,b,c⟩:=e;show wpS _ _ _ _ (if c<=pw then _ else _) _ _;split
   ·exact bI (f st h).2
   ·refine bq (y9 i ok h #[178,ag #["IHh<!f9O",hp]] λst' j k=>?_);exact bI (f st' j).1
 ·rw[aG hp];exact bI (f st h).2
theorem DJ (v:J.OneLt) (ok:∀x∈L,rG J x) (h:gV J L L 0 st) {Q:dt->bH->Prop} (hQ:∀st',(eB st').toList.Perm L->lR st'=ah->gD J (eB st').toList->Q () st'):wpS (model prog w) A E s sortRuns' Q st:=by
 rw[sortRuns'_eq];refine bq (mX ?_);have g:(Wb L)=(eB st).size:=by rw[<-cK];exact h.perm.length_eq.symm
 generalize(eB st).size=C at g⊢;refine bq (wpS_mono (f0 (I:=λx c st'=>∃U R,c=((ah,U):au dt×af)/\gV J L R U st'/\(U=C\/x<=U)) (Q:=λc st'=>∃R,c=((ah,C):au dt×af)/\gV J L R C st') (λx c st' i hx a=>?_) (λc st' a=>?_) (fD 0 L rfl h (.inr (bf _)))) λc st' y=>?_)
 ·refine eV a ?_;clear a;intro U R b a z;refine dq b ?_;dsimp only;by_cases t:U>=C
  ·rw[aF t];refine kn (a.at_ ok g) λP i i i O=>?_;obtain rfl:U=C:=by exact aB #[1,O] #[1,t]
   exact bI (aY R rfl a)
  rw[aG t];refine kn (a.at_ ok g) λP S T V a4=>?_;refine bq (Gy v S #["1dnG'.`YJ~:ZNv",t,d8 _ _] λm q hr=>?_);refine zu hr λW s1 X b2 u Y B=>?_;have F:=a.same s1 X T V b2;have rest:∀n f k,gV J L k U f->0<n->n<=(Wb k)->gD J (k.take n)->∀st',gV J L (k.drop n) (U+n) st'->∃l R',((ah,U+n):au dt×af)=(ah,l)/\gV J L R' l st'/\(l=C\/x+1<=l):=λn f k i h0 i i st' o=>fD (U+n) _ rfl o (by omega);dsimp only;split
  ·refine bq (qX (iH ⟨rfl,?_⟩));refine bq (DI v X #[92,cZ _ _] (by exact BR.mpr ⟨Y,#[16,(by assumption)]⟩) B λf k s2 c1 c2 G=>?_);have H:=a.same (s1.trans s2) c1 T V (c2.trans b2);have K:0<min (C-U) (minRun' C C 0):=by exact Nat.lt_min.mpr ⟨#["9^r9SO2gmsGC",u,Y],#["9^r9SO2!G%?G",u,(by assumption)]⟩
   have d:min (C-U) (minRun' C C 0)<=(Wb k):=by rw[c1.len];exact#[1,cZ _ _]
   refine bq (mX ?_);induction(dn f).back? using cX with|none=>exact bq (iG (bI (rest _ f k H K d G _ (H.push K d G))))|some e=>refine bq (Hc H (λx Q st' p D=>Hd v ok p D) λst' o=>?_);exact bq (iG (bq (iG (bI (rest _ f k H K d G _ (gV.push (o.pow _ _) K d G))))))
  ·have d:m<=W.length:=by rw[X.len];exact Y
   refine bq (mX ?_);induction(dn q).back? using cX with|none=>exact bq (iG (bI (rest _ q W F u d B _ (F.push u d B))))|some e=>refine bq (Hc F (λx Q st' p D=>Hd v ok p D) λst' o=>?_);exact bq (iG (bq (iG (bI (rest _ q W F u d B _ (gV.push (o.pow _ _) u d B))))))
 ·refine eV a ?_;clear a;intro U R b a z;refine dq b ?_;refine kn (a.at_ ok g) λP i i i O=>?_;obtain rfl:U=C:=by exact aB #[1,O] (lz z (λj=>#[10,j]) (λj=>#[5,j,kW _ _]))
  exact aY R rfl a
 ·refine ba y ?_;clear y;intro R b a;refine dq b ?_;refine kn (a.at_ ok g) λP S T V i=>?_;have hR:=dD (by rw[S.len];exact aB #[",w~;8;(*k}",ag #["CQ"]] #[4]);subst hR;dsimp only;have fin:∀st',gV J L [] C st'->(dn st').size<=1->Q () st':=λst' o M=>by
   obtain⟨⟨rs,e1,e2,N⟩,_,hf,Z⟩:=o;refine hQ st' Z hf ?_;rw[e1,aJ];have t:=N.len.1;rw[az,cK]at t;exact N.flat (by omega)
  have r:∀st',gV J L [] C st'->(dn st').size<=C:=λst' o=>by obtain⟨⟨rs,e1,e2,N⟩,_⟩:=o;have:=N.len.2;rw[az,cK,e2]at this;exact this
  refine bq (wpS_mono (f0 (I:=λx c st'=>c=((ah,()):au dt×dt)/\gV J L [] C st'/\((dn st').size<=1\/(dn st').size+x<=C)) (Q:=λc st'=>c=((ah,()):au dt×dt)/\Q () st') (λx c st' i hx a=>?_) (λc st' a=>?_) (dy rfl a (.inr (r _ a)))) λc st' y=>?_)
  ·refine iK a ?_;clear a;intro b a M;refine bq (mX ?_);by_cases p:(dn st').size<=1
   ·rw[aF p];exact bI ⟨rfl,fin st' a p⟩
   rw[aG p];refine bq (y9 v ok a (de (w4 (Sh (bY _ _) (bf _)) 1) #[178,ag #["IHh~,NAo",p]]) λf D h3=>?_);exact bI (dy rfl D (.inr (by exact lz M (λj=>#["{<e5paB3FdA6Nd'",p,j]) (λj=>#["1os4O7hB{F2(Jd:*Aa%",h3,j]))))
  ·refine iK a ?_;clear a;intro b a M;refine dq b ?_;exact⟨rfl,fin st' a (by exact lz M (λj=>#["6YAs{FlQ2",j]) (λj=>#["k!6WAD0j{My.Uo",j,kW _ _]))⟩
  ·refine dp y ?_;clear y;intro b hq;refine dq b ?_;exact bI hq
end
@[reducible] noncomputable def yC:KeyKind where
 α:=aq
 blt a b:=decide (a<b)
 irrefl a:=aX (by omega)
 trans a b c d h2:=aI (by have:=bC d;have:=bC h2;omega)
 negTrans a b c h:=by
  have:=bC h;by_cases e:a<b
  ·exact .inl (aI e)
  ·exact .inr (aI (by omega))
 total a b d h2:=by have:=iT d;have:=iT h2;omega
 keyOf v:=match v with|.int n _=>aa n|_=>ah
 dflt:=0
theorem DK:yC.OneLt:=by
 intro prog w A E s x y a b Q c d h;induction x using iu with
 |int n t=>induction y using iu with|int m u=>cases c;cases d;exact oneLt_int h|_=>cases d
 |_=>cases c
section
variable {I:Program} {w:fb} {A:cQ} {E:aE->aM->Prop} {s:aM} {U:KeyKind}
variable {C:ae aE} {h:dj} {a:bh} {J:bZ aE}
theorem JO (h:C.toArray.size<2):gD U (C.zip C):=by
 rcases C with _|⟨v,_|⟨w,C⟩⟩
 ·exact .nil
 ·exact dJ _ _
 ·exact bJ h (Nat.not_lt.mpr (BS 2 _))
theorem Si (h:¬C.toArray.size<2):∃a b rest,C=a::b::rest:=by
 rcases C with _|⟨v,_|⟨w,C⟩⟩
 ·exact(h (Nat.zero_lt_succ _)).elim
 ·exact(h (o7 _)).elim
 ·exact DY v w C rfl
theorem Ik (z:U.OneLt) {a:bh} {C:ae aE} {n:af} {P:Fin->aM->Prop} (j:s.heap.get? a=aa (qg "list" C.toArray n)) (B:∀v∈C,∃k,U.keyOf v=aa k)
  (m:∀b c rest,C=b::c::rest->keyKind' (b::c::rest).toArray=pure oneType') (t:(Wb C)<=sizeLine)
  (h:∀st':bH,(eB st').toList.Perm (C.zip C)->gD U (eB st').toList->P (.done (.ret .none)) {s with heap:=sortedHeap s.heap a C ((eB st').map (·.2))}):
  bp (model I w) A (Builtin.«list.sort» ⟨[.ref a],[]⟩) P E s:=by
 rw[list_sort_plain];have y:=jn j;have o:C.toArray.size=(Wb C):=by simp
 refine aA (listItems_at j rfl ?_);refine aA (listUpdate_at j rfl ?_ (by rw[o];exact t) (by simp));refine ck (⟨_,uR j (λg=>#[])⟩:∃p,(s.heap.update a (sW λg=>#[])).get? a=aa (qg "list" #[] p)) λp i=>?_;refine aA (seqEpoch_at i rfl ?_);refine aA (wpAny_newTuple ?_ (by simpa using t));refine aA (r8 ?_);refine dk ?_;have d:(((s.heap.update a (sW λg=>#[])).push (qg "tuple" C.toArray 0)).push (qg "list" #[] 0)).get? a=aa (qg "list" #[] p):=by rw[Heap.get?_push_ne _ _ _ (by rw[size_push',Heap.size_update];exact j2 (sI y)),Heap.get?_push_ne _ _ _ (by rw[Heap.size_update];exact j2 y)];exact i
 dsimp only;have l:(C.toArray.zip C.toArray).toList=C.zip C:=by simp
 have fin:∀st':bH,(eB st').toList.Perm (C.zip C)->((eB st').map (·.2)).size<=sizeLine+1:=λst' f=>by rw[Array.size_map,<-cK,f.length_eq,List.length_zip,Gf];omega
 by_cases h2:C.toArray.size<2
 ·rw[aF h2,aF h2];refine aA (aW ?_);rw[StateT.run_pure];refine aA (aW ?_);dsimp only;refine aA (seqEpoch_at d rfl ?_);have f:(eB (wY general' (C.toArray.zip C.toArray) #[] 7 ah)).toList.Perm (C.zip C):=by show(C.toArray.zip C.toArray).toList.Perm _;rw[l]
  refine aA (listUpdate_at d rfl ?_ (by simp) (fin _ f));simp only[sJ,nP,qZ];refine aW (h _ f ?_);rw[l];exact JO h2
 ·rw[aG h2,aG h2];refine yx (Si h2) λb c rest q=>?_;obtain rfl:=q;rw[m _ _ _ rfl];refine aA (aW ?_);have r:∀x∈(b::c::rest).zip (b::c::rest),rG U x:=λx D=>B _ (mem_zip_self D).2;refine aA (bS (DJ z (st:=wY oneType' ((b::c::rest).toArray.zip (b::c::rest).toArray) #[] 7 ah)
   (Q:=λg st'=>(eB st').toList.Perm ((b::c::rest).zip (b::c::rest))/\lR st'=ah/\gD U (eB st').toList)
   r ⟨dS ([]) l rfl rfl,rfl,rfl,by show((b::c::rest).toArray.zip (b::c::rest).toArray).toList.Perm _;rw[l]⟩ λst' F G H=>dy F G H) ?_ λg g e=>e)
  rintro⟨⟨⟩,st'⟩ L ⟨rfl,f,J,K⟩;dsimp only;refine aA (seqEpoch_at d rfl ?_);refine aA (listUpdate_at d rfl ?_ (by simp) (fin _ f));rw[J];simp only[sJ,nP,qZ];exact aW (h st' f K)
theorem AE {b:bh} {o:fK} (c:b≠a) (e:h.get? b=aa o):(sortedHeap h a C J).get? b=aa o:=by rw[m7 _ _ _ _ c];refine bN _ (bN _ ?_);rw[m7 _ _ _ _ c];exact e
theorem DL {xs:bZ aE} {n:af} (e:h.get? a=aa (qg "list" xs n)):∃k,(sortedHeap h a C J).get? a=aa (qg "list" J k):=by exact⟨_,uR (bN _ (bN _ (uR e λb=>#[]))) λb=>J⟩
theorem PF (n:U.OneLt) {it:aE} {V:ae aE->Prop} {Q:aE->aM->Prop} (f:∀R:ae aE->aM->Prop,(∀a tk C,(∀b o,s.heap.get? b=aa o->a.get? b=aa o)->V C->R C {s with heap:=a,toks:=tk})->bp (model I w) A.in1 (collect it) R E s)
  (p:∀C,V C->(∀v∈C,∃k,U.keyOf v=aa k)/\(∀c d rest,C=c::d::rest->keyKind' (c::d::rest).toArray=pure oneType')/\(Wb C)<=sizeLine)
  (h:∀a tk C D k (arr:bZ bx),V C->(∀b o,s.heap.get? b=aa o->a.get? b=aa o)->s.heap.get? D=ah->a.get? D=aa (qg "list" (arr.map (·.2)) k)->arr.toList.Perm (C.zip C)->gD U arr.toList->Q (.ref D) {s with heap:=a,toks:=tk}):
  bp (model I w) A (call (.builtin "sorted") [it]) Q E s:=by
 refine Calls.call_function_entry kind_sorted plain_sorted entry_sorted (args_sorted1 _) ?_;refine aA (aW ?_);refine aA (f _ λa tk C l m=>?_);refine iK (p C m) λg1 g2 g3=>?_;refine aA (r8 ?_ g3);have i:(a.push (qg "list" C.toArray 0)).get? a.objs.size=aa (qg "list" C.toArray 0):=dF _ rfl;refine aA (dk (iO slot_list_sort (aY _ i rfl) entry_list_sort (Ik n i g1 g2 g3 λst' q r=>aY _ rfl ?_) (args_list_sort _)));refine ck (DL (C:=C) (J:=(eB st').map (·.2)) i) λk j=>?_;refine aW (aY _ rfl (h _ tk C _ k (eB st') m (λb o e=>?_) ?_ j q r))
 ·have:=l b o e;exact AE (j2 (jn this)) (bN _ this)
 ·cases e:s.heap.get? a.objs.size with|none=>rfl|some o=>exact bJ (jn (l _ _ e)) (ly _)
end
end
section
open PySem PySem.W PyProof.Rows
noncomputable abbrev pw:Program:=PySem.Challenge.pw_or0003_01
noncomputable abbrev S (s:aC):cI:=aZ s
noncomputable def EF {α:Type} (d:α) (k:cI->Arguments->ae et->Scope->Pos->α):au et->α
 |some (.FunctionDef n a b _ _ _ sc _ _ p)=>k n a b sc p
 |_=>d
noncomputable def AG (st:au et) (q:aC) (a:bh) (b pm:aE):FuncData:=EF default (λn args body c d=>{name:=n,qualname:=S q,params:=args,body:=.stmts body,scope:=c,globals:=kH,closure:=[],defaults:=b,kwdefaults:=.none,pyModule:=pm,code:=.ref a,builtins:=builtinsNs}) st
noncomputable def fQ (i:af):au et:=pw.main.body[i]?
noncomputable def oc (i j:af):au et:=match pw.main.body[i]? with|some (.ClassDef _ _ _ b _ _ _ _ _ _ _)=>b[j]?|_=>ah
noncomputable abbrev xH (st:au et) (q:aC) (a:bh) (b pm:aE):fK:={cls:=.type "function",data:=.func (AG st q a b pm)}
noncomputable abbrev en (P:eI) (k:aC) (t:Tok) (v:aE):ew:={hash:=q0 P (S k),key:=.str (S k) t,val:=v}
noncomputable abbrev tO (a:bZ aE):fK:={cls:=.type "tuple",data:=.seq a 0}
noncomputable abbrev pT:aE:=.str (S "kindkeep.types") 256
noncomputable abbrev pK:aE:=.str (S "kindkeep.kindtpl") 508
noncomputable abbrev pH:aE:=.str (S "kindkeep.hosts") 634
noncomputable abbrev pL:aE:=.str (S "law_or0003_01") 792
noncomputable abbrev pD:aE:=.str (S "kindkeep.diags") 194
noncomputable abbrev fE (i n:af) (q:aC) (d v:aE):af×fK:=(i,xH (fQ n) q (i-1) d v)
noncomputable def KF (P:eI):Frag:=[
 (3,({cls:=.type "dict",data:=.dict #[en P "__name__" 165 pL,en P "__doc__" 166 (.none),en P "__package__" 167 (.none),en P "__loader__" 168 (.builtin "__main__.__loader__#opaque"),en P "__spec__" 169 (.none),en P "__annotations__" 170 (.ref 6),en P "__builtins__" 171 (.ref 4),en P "__file__" 173 (.str (S "/claim/cut.py") 172),en P "__cached__" 174 (.none),en P "_wall" 193 (.ref 21),en P "KeepError" 226 (.ref 39),en P "TooDeep" 255 (.ref 60),en P "Y_KEY" 259 (.int 1 258),en P "Y_BOOL" 261 (.int 2 260),en P "Y_STR" 263 (.int 3 262),en P "Y_NUM" 265 (.int 4 264),en P "Y_ENUM" 267 (.int 5 266),en P "Y_UNION" 269 (.int 6 268),en P "Y_INTER" 271 (.int 7 270),en P "Y_OBJ" 273 (.int 8 272),en P "Y_PARAM" 275 (.int 10 274),en P "Y_TUPLE" 277 (.int 12 276),en P "Y_KEYOF" 279 (.int 14 278),en P "Y_INDEX" 281 (.int 15 280),en P "Y_COND" 283 (.int 16 282),en P "Y_MAPPED" 285 (.int 17 284),en P "Y_TPL" 287 (.int 18 286),en P "Y_ALIAS" 289 (.int 19 288),en P "ANY" 291 (.int 0 290),en P "UNKNOWN" 293 (.int 1 292),en P "NEVER" 295 (.int 2 294),en P "UNDEF" 297 (.int 4 296),en P "NULLT" 299 (.int 5 298),en P "STRING" 301 (.int 6 300),en P "NUMBER" 303 (.int 7 302),en P "FALSE_T" 305 (.int 8 304),en P "TRUE_T" 307 (.int 9 306),en P "BOOLEAN" 309 (.int 12 308),en P "ERR" 311 (.int 13 310),en P "FRESH_F" 313 (.int 14 312),en P "FRESH_T" 315 (.int 15 314),en P "E_SPREAD" 317 (.int 3 316),en P "MAX_UNION" 319 (.int 400 318),en P "FIRST_ROWS" 341 (.ref 85),en P "MARKED_ROWS" 342 (.ref 86),en P "TypeTable" 396 (.ref 117),en P "kind_of" 404 (.ref 128),en P "str_type" 414 (.ref 136),en P "num_type" 424 (.ref 144),en P "member_type" 436 (.ref 152),en P "new_param" 451 (.ref 160),en P "parts_of" 460 (.ref 167),en P "whole_of_row" 468 (.ref 174),en P "regular_twin" 477 (.ref 181),en P "join_bools" 484 (.ref 188),en P "stays_beside" 493 (.ref 195),en P "top_of" 501 (.ref 202),en P "union" 507 (.ref 207),en P "MOST_CROSSED" 511 (.int 200 510),en P "TOP_NUMBER" 513 (.int 9007199254740991 512),en P "OPEN_KINDS" 514 (.ref 208),en P "is_open" 525 (.ref 215),en P "unit_word" 534 (.ref 222),en P "digits_back" 544 (.ref 229),en P "glue" 552 (.ref 236),en P "hole_pieces" 565 (.ref 243),en P "cross_holes" 581 (.ref 250),en P "one_template" 593 (.ref 257),en P "tpl_kind" 605 (.ref 264),en P "cut_holes" 621 (.ref 271),en P "tpl_match" 633 (.ref 278),en P "MOST_ROUNDS" 637 (.int 200 636),en P "Thin" 791 (.ref 393),en P "_law_texts" 799 (.ref 404),en P "_law_bits" 805 (.ref 411),en P "_law_stock" 813 (.ref 418),en P "_law_hole" 819 (.ref 423),en P "_law_words" 825 (.ref 428),en P "_law_read" 839 (.ref 435),en P "_law_number" 848 (.ref 442),en P "_law_cut" 863 (.ref 449),en P "_law_want" 874 (.ref 456),en P "_law_fill" 885 (.ref 463),en P "law" 891 (.ref 468)] 84}:fK)),
 (29,tO #[.str (S "") 208]),
 (36,xH (oc 2 0) "KeepError.__init__" 35 (.ref 29) pD),
 (38,({cls:=.type "dict",data:=.dict #[en P "__module__" 203 pD,en P "__firstlineno__" 207 (.int 5 206),en P "__init__" 216 (.ref 36),en P "__static_attributes__" 219 (.ref 37),en P "__weakref__" 221 (.ref 40),en P "__doc__" 222 (.none)] 3}:fK)),
 (39,({cls:=.type "type",data:=.cls {name:=S "KeepError",bases:=[.type "Exception"],mro:=[.ref 39,.type "Exception",.type "BaseException",.type "object"],ns:=38,qualname:=S "KeepError",hasDict:=ai,slotNames:=[],subclasses:=[.ref 60],abstract:=aD,collection:=ah,hasDel:=aD},slots:=#[aa (.ref 22),ah,aa (.str (S "KeepError") 196),aa (.str (S "KeepError") 204),aa (.builtin "Exception.__new__"),aa (.bool ai)]}:fK)),
 (50,tO #[.int 2589 239,.str (S "") 240]),
 (57,xH (oc 3 0) "TooDeep.__init__" 56 (.ref 50) pD),
 (59,({cls:=.type "dict",data:=.dict #[en P "__module__" 234 pD,en P "__firstlineno__" 238 (.int 10 237),en P "__init__" 249 (.ref 57),en P "__static_attributes__" 252 (.ref 58),en P "__doc__" 253 (.none)] 2}:fK)),
 (60,({cls:=.type "type",data:=.cls {name:=S "TooDeep",bases:=[.ref 39],mro:=[.ref 60,.ref 39,.type "Exception",.type "BaseException",.type "object"],ns:=59,qualname:=S "TooDeep",hasDict:=ai,slotNames:=[],subclasses:=[],abstract:=aD,collection:=ah,hasDel:=aD},slots:=#[aa (.ref 43),ah,aa (.str (S "TooDeep") 227),aa (.str (S "TooDeep") 235),aa (.builtin "Exception.__new__"),aa (.bool ai)]}:fK)),
 (63,tO #[.int 1 258,.str (S "any") 320]),
 (64,tO #[.int 1 258,.str (S "unknown") 321]),
 (65,tO #[.int 1 258,.str (S "never") 322]),
 (66,tO #[.int 1 258,.str (S "void") 323]),
 (67,tO #[.int 1 258,.str (S "undefined") 324]),
 (68,tO #[.int 1 258,.str (S "null") 325]),
 (69,tO #[.int 1 258,.str (S "string") 326]),
 (70,tO #[.int 1 258,.str (S "number") 327]),
 (71,tO #[.int 2 260,.int 0 328,.int 0 329]),
 (72,tO #[.int 2 260,.int 1 330,.int 0 331]),
 (73,tO #[.int 1 258,.str (S "object") 332]),
 (74,tO #[]),
 (75,tO #[]),
 (76,tO #[]),
 (77,tO #[]),
 (78,tO #[]),
 (79,tO #[.int 8 272,.ref 74,.ref 75,.ref 76,.ref 77,.ref 78,.int 0 333]),
 (80,tO #[.int 8 334,.int 9 335]),
 (81,tO #[.int 6 268,.ref 80]),
 (82,tO #[.int 1 258,.str (S "error") 336]),
 (83,tO #[.int 2 260,.int 0 337,.int 1 338]),
 (84,tO #[.int 2 260,.int 1 339,.int 1 340]),
 (85,tO #[.ref 63,.ref 64,.ref 65,.ref 66,.ref 67,.ref 68,.ref 69,.ref 70,.ref 71,.ref 72,.ref 73,.ref 79,.ref 81,.ref 82,.ref 83,.ref 84]),
 (86,tO #[.int 2 260,.int 3 262,.int 4 264,.int 5 266,.int 8 272]),
 (100,xH (oc 38 0) "TypeTable.__init__" 99 .none pT),
 (107,xH (oc 38 1) "TypeTable.row" 106 .none pT),
 (114,xH (oc 38 2) "TypeTable.put" 113 .none pT),
 (116,({cls:=.type "dict",data:=.dict #[en P "__module__" 350 pT,en P "__firstlineno__" 354 (.int 49 353),en P "__init__" 362 (.ref 100),en P "row" 370 (.ref 107),en P "put" 379 (.ref 114),en P "__static_attributes__" 389 (.ref 115),en P "__dict__" 391 (.ref 118),en P "__weakref__" 393 (.ref 119),en P "__doc__" 394 (.none)] 4}:fK)),
 (117,({cls:=.type "type",data:=.cls {name:=S "TypeTable",bases:=[.type "object"],mro:=[.ref 117,.type "object"],ns:=116,qualname:=S "TypeTable",hasDict:=ai,slotNames:=[],subclasses:=[],abstract:=aD,collection:=ah,hasDel:=aD},slots:=#[ah,ah,aa (.str (S "TypeTable") 343),aa (.str (S "TypeTable") 351),aa (.builtin "object.__new__"),aa (.bool ai)]}:fK)),
 fE 128 39 "kind_of" .none pT,
 (129,tO #[.int 0 405]),
 fE 136 40 "str_type" (.ref 129) pT,
 (137,tO #[.int 0 415]),
 fE 144 41 "num_type" (.ref 137) pT,
 (145,tO #[.int 0 425]),
 fE 152 42 "member_type" (.ref 145) pT,
 (153,tO #[.int (-1) 438,.int (-1) 440]),
 fE 160 43 "new_param" (.ref 153) pT,
 fE 167 44 "parts_of" .none pT,
 fE 174 45 "whole_of_row" .none pT,
 fE 181 46 "regular_twin" .none pT,
 fE 188 47 "join_bools" .none pT,
 fE 195 48 "stays_beside" .none pT,
 fE 202 49 "top_of" .none pT,
 fE 207 50 "union" .none pT,
 (208,tO #[.int 10 274,.int 14 278,.int 15 280,.int 16 282,.int 17 284,.int 19 288]),
 fE 215 55 "is_open" .none pK,
 fE 222 56 "unit_word" .none pK,
 fE 229 57 "digits_back" .none pK,
 fE 236 58 "glue" .none pK,
 fE 243 59 "hole_pieces" .none pK,
 fE 250 60 "cross_holes" .none pK,
 fE 257 61 "one_template" .none pK,
 fE 264 62 "tpl_kind" .none pK,
 fE 271 63 "cut_holes" .none pK,
 fE 278 64 "tpl_match" .none pK,
 (292,xH (oc 67 0) "Thin.__init__" 291 .none pH),
 (299,xH (oc 67 1) "Thin.force" 298 .none pH),
 (392,({cls:=.type "dict",data:=.dict #[en P "__module__" 645 pH,en P "__firstlineno__" 649 (.int 263 648),en P "__init__" 657 (.ref 292),en P "force" 665 (.ref 299),en P "put_deferred" 673 (.ref 306),en P "put_cond" 682 (.ref 313),en P "lay_row" 691 (.ref 320),en P "bound" 699 (.ref 327),en P "fits" 708 (.ref 334),en P "lies" 717 (.ref 341),en P "infers" 727 (.ref 348),en P "tpl_fits" 736 (.ref 355),en P "shape_fits" 745 (.ref 362),en P "put_in" 754 (.ref 369),en P "own_sig" 763 (.ref 376),en P "list_prop" 772 (.ref 383),en P "list_index" 780 (.ref 390),en P "__static_attributes__" 784 (.ref 391),en P "__dict__" 786 (.ref 394),en P "__weakref__" 788 (.ref 395),en P "__doc__" 789 (.none)] 4}:fK)),
 (393,({cls:=.type "type",data:=.cls {name:=S "Thin",bases:=[.type "object"],mro:=[.ref 393,.type "object"],ns:=392,qualname:=S "Thin",hasDict:=ai,slotNames:=[],subclasses:=[],abstract:=aD,collection:=ah,hasDel:=aD},slots:=#[ah,ah,aa (.str (S "Thin") 638),aa (.str (S "Thin") 646),aa (.builtin "object.__new__"),aa (.bool ai)]}:fK)),
 fE 404 69 "_law_texts" .none pL,
 fE 411 70 "_law_bits" .none pL,
 fE 418 71 "_law_stock" .none pL,
 fE 423 72 "_law_hole" .none pL,
 fE 428 73 "_law_words" .none pL,
 fE 435 74 "_law_read" .none pL,
 fE 442 75 "_law_number" .none pL,
 fE 449 76 "_law_cut" .none pL,
 fE 456 77 "_law_want" .none pL,
 fE 463 78 "_law_fill" .none pL,
 fE 468 79 "law" .none pL]
noncomputable def UX:ae bh:=[3,29,36,38,39,50,57,59,60,63,64,65,66,67,68,69,70,71,72,73,74,75,76,77,78,79,80,81,82,83,84,85,86,100,107,114,116,117,128,129,136,137,144,145,152,153,160,167,174,181,188,195,202,207,208,215,222,229,236,243,250,257,264,271,278,292,299,392,393,404,411,418,423,428,435,442,449,456,463,468]
noncomputable def wu:ae (bh×aE):=[(35,.str (S "KeepError.__init__") 210),(56,.str (S "TooDeep.__init__") 242),(99,.str (S "TypeTable.__init__") 356),(106,.str (S "TypeTable.row") 364),(113,.str (S "TypeTable.put") 372),(127,.str (S "kind_of") 398),(135,.str (S "str_type") 407),(143,.str (S "num_type") 417),(151,.str (S "member_type") 427),(159,.str (S "new_param") 442),(166,.str (S "parts_of") 453),(173,.str (S "whole_of_row") 462),(180,.str (S "regular_twin") 470),(187,.str (S "join_bools") 479),(194,.str (S "stays_beside") 486),(201,.str (S "top_of") 495),(206,.str (S "union") 503),(214,.str (S "is_open") 516),(221,.str (S "unit_word") 527),(228,.str (S "digits_back") 536),(235,.str (S "glue") 546),(242,.str (S "hole_pieces") 554),(249,.str (S "cross_holes") 567),(256,.str (S "one_template") 583),(263,.str (S "tpl_kind") 595),(270,.str (S "cut_holes") 607),(277,.str (S "tpl_match") 623),(291,.str (S "Thin.__init__") 651),(298,.str (S "Thin.force") 659),(403,.str (S "_law_texts") 795),(410,.str (S "_law_bits") 801),(417,.str (S "_law_stock") 807),(422,.str (S "_law_hole") 815),(427,.str (S "_law_words") 821),(434,.str (S "_law_read") 827),(441,.str (S "_law_number") 841),(448,.str (S "_law_cut") 850),(455,.str (S "_law_want") 865),(462,.str (S "_law_fill") 876),(467,.str (S "law") 887)]
noncomputable def rH (h:dj) (c:bh):au aE:=(h.get? c).bind λo=>match o.data with|.fields vs=>vs[1]?|_=>ah
theorem EG {h a:dj} (k:∀b o,h.get? b=aa o->a.get? b=aa o) {c:bh} {v:aE} (e:rH h c=aa v):rH a c=aa v:=by unfold rH at*;refine ba (fv.mp e) λo d f=>?_;rw[k _ _ d];exact f
noncomputable def B_ (h:dj):Prop:=∀p∈wu,rH h p.1=aa p.2
theorem He:∀{h:dj} {l:ae (bh×aE)},l.map (λp=>rH h p.1)=l.map (λp=>aa p.2)->∀p∈l,rH h p.1=aa p.2
 |_,[],_,_,b=>nomatch b
 |h,a::l,e,p,b=>by
  rw[fj,fj]at e;injection e with c d
  rcases bw.mp b with rfl|b
  ·exact c
  ·exact He d p b
noncomputable def m5:Hook where
 α:=(ae (au fK)×ae (au aE))×au aE
 obs:=λs=>((UX.map s.heap.get?,wu.map λp=>rH s.heap p.1),(s.heap.get? jo).map (·.cls))
 val:=λw=>(((KF w.params).map λp=>aa p.2,wu.map λp=>aa p.2),aa (.type "dict"))
 says:=λw h=>(KF w.params).In h/\B_ h/\∃o,h.get? jo=aa o/\o.cls=.type "dict"
 of:=λw s e=>dy (Frag.in_of (as:=UX) rfl (aU (λx=>x.1.1) e)) (He (aU (λx=>x.1.2) e)) (bK.mp (aU Gg e))
 keeps:=λw h b x k=>⟨x.1.keeps k,λp a=>EG k (x.2.1 p a),let⟨o,e,c⟩:=x.2.2;⟨o,k _ _ e,c⟩⟩
end
section
open PySem PySem.W PyProof.Rows
noncomputable section
noncomputable def wx:Pos:=⟨0,0,0,0⟩
noncomputable def Ml:Pos:=⟨404,0,454,15⟩
def Mm:gP:={scope:=pw.main.scope,locals:=mainNs,globals:=mainNs,cells:=[],code:=.ref 13,frame:=aa 14}
def Il:ae et:=behindTheImports pw
noncomputable def VO:fK:={cls:=.type "code",data:=.fields #[.str (S "<module>") 182,.str (S "<module>") 183,.str (S "/claim/cut.py") 184,.int 1 0,.int 0 0,.int 0 0,.int 0 0,.int 0 0,.ref 11,.bool aD,.int 181 0,.ref 12,.none,.none,.none,.none,.int 185 0,.int 1 0,.str (S "/claim/cut.py") 186]}
noncomputable def VP:fK:={cls:=.type "frame",slots:=#[aa (.ref 13),aa (.ref 3),aa (.ref 3),ah,aa (.str (S "__main__") 164),ah,aa (.ref 0)]}
def Uc (P:eI):ae fK:=[boot_o_0 P,boot_o_1 P,boot_o_2 P,boot_o_3 P,boot_o_4 P,boot_o_5 P,boot_o_6 P,boot_o_7 P,boot_o_8 P,boot_o_9 P,boot_o_10 P,{cls:=.type "tuple",data:=.seq #[]},{cls:=.none,data:=.fields #[]},VO,VP]
noncomputable def JP:ae fK->af->BT->BT
 |[],_,t=>t
 |o::r,n,t=>JP r (n+1) (t.ins n o)
def Im (P:eI):BT:=JP (Uc P) 0 .nil
def ON (w:fb) (os:q8):SharedT:=⟨Im w.params,15,{},#[],{},187,os⟩
def cE:Code:=.body Il Mm
def Sj:Thread:=piecesOf Il Mm cE wx [Ae wx]
def OO (q:Program) (loose:ae cI) (w:fb) (s:aM):=
 ((yf (lL pw.main.body) (fV w.params) s.heap&&w5 pw s.heap&&Af s&&Ag (fV w.params) s.heap),openSeen q loose (lL pw.main.body) (λs=>recOk [] s) ai s,m5.obs s)
theorem Io {w:fb} {a:af} {ann:au aE} (s:aM) (p:Pos):topRun j3 pw w a ann 2 s ⟨doneF .next,cE,p,[Ae wx]⟩=aa s:=by obtain⟨b,c,drawn,d,os⟩:=s;rfl
def pA:Program:=view pw [79]
noncomputable def oZ:ae cI:=[S "_wall",S "KeepError",S "TooDeep",S "Y_KEY",S "Y_BOOL",S "Y_STR",S "Y_NUM",S "Y_ENUM",S "Y_UNION",S "Y_INTER",S "Y_OBJ",S "Y_PARAM",S "Y_TUPLE",S "Y_KEYOF",S "Y_INDEX",S "Y_COND",S "Y_MAPPED",S "Y_TPL",S "Y_ALIAS",S "ANY",S "UNKNOWN",S "NEVER",S "UNDEF",S "NULLT",S "STRING",S "NUMBER",S "FALSE_T",S "TRUE_T",S "BOOLEAN",S "ERR",S "FRESH_F",S "FRESH_T",S "E_SPREAD",S "MAX_UNION",S "FIRST_ROWS",S "MARKED_ROWS",S "TypeTable",S "kind_of",S "str_type",S "num_type",S "member_type",S "new_param",S "parts_of",S "whole_of_row",S "regular_twin",S "join_bools",S "stays_beside",S "top_of",S "union",S "MOST_CROSSED",S "TOP_NUMBER",S "OPEN_KINDS",S "is_open",S "unit_word",S "digits_back",S "glue",S "hole_pieces",S "cross_holes",S "one_template",S "tpl_kind",S "cut_holes",S "tpl_match",S "MOST_ROUNDS",S "Thin",S "_law_texts",S "_law_bits",S "_law_stock",S "_law_hole",S "_law_words",S "_law_read",S "_law_number",S "_law_cut",S "_law_want",S "_law_fill"]
end
end
section
open PySem PySem.W PyProof.Rows
noncomputable section
theorem Sl (w:fb):(λos=>Fast.tw15667345088766844465 j4 pw w 11 (aa (.ref 6)) 12 ⟨fV w.params,#[],mJ,nQ,os⟩ (yT pw))=λos=>aa (⟨absHeap (Im w.params) 15 {},#[],{},187,os⟩,⟨Fast.tw11892475500146522536 j4 cE,cE,wx,[Ae wx]⟩):=by kernel_rfl!
theorem Sm (w:fb):(λos=>Fast.tw14374325043358763698 j4 pw w 11 (aa (.ref 6)) 1 1 ⟨absHeap (Im w.params) 15 {},#[],{},187,os⟩ (blockOf Il Mm cE wx [Ae wx]))=λos=>aa (.next,(ON w os).abs,cE,wx):=by kernel_rfl!
#check @rP
#check @rQ
#check @rR
#check @r9
#check @rS
#check @j5
end
end
section
open PySem PySem.W PyProof.Rows
noncomputable section
def JQ (q:Program) (loose:ae cI) (w:fb) (s:aM):=
 ((yf (lL pw.main.body) (fV w.params) s.heap&&w5 pw s.heap&&Af s&&Ag (fV w.params) s.heap),Fast.tw4187177175401517315 q loose (lL pw.main.body) (λs=>recOk [] s) ai s,m5.obs s)
theorem Sn (w:fb):(λos=>(Fast.tw10110043849684766642 j4 pw w 11 (aa (.ref 6)) 1 3100 (ON w os) Sj).map λr=>(r.1,r.2.2.1,r.2.2.2,JQ pA oZ w r.2.1.abs))=λa=>aa (.next,cE,Ml,(ai,openGood pA oZ,m5.val w)):=by kernel_rfl!
end
end
section
open PySem PySem.W PySem.Calls PyProof.Rows
theorem JR (w:fb) (os:q8) {a:SharedT} (h:segRunT j3 pw w 11 (aa (.ref 6)) 1 3100 (ON w os) Sj=aa (.next,a,cE,Ml)):
  topRun j3 pw w 11 (aa (.ref 6)) (12+(1+(3100+2))) ⟨fV w.params,#[],mJ,nQ,os⟩ (yT pw)=aa a.abs:=by
 have p:=Sl w;rw[<-rP,<-rQ,<-j5]at p;have b:=Sm w;rw[<-rS,<-j5]at b;refine go_top (Gh p os) (piece_block (Gh b os) ?_);have r:=piece_app (segRun_of h) (piece_nil (Io _ _))
 rwa [aJ]at r
theorem So (w:fb) (os:q8):∃d,segRunT j3 pw w 11 (aa (.ref 6)) 1 3100 (ON w os) Sj=aa (.next,d,cE,Ml)/\OO pA oZ w d.abs=(ai,openGood pA oZ,m5.val w):=by have f:=Gh (Sn w) os;rw[<-rR,<-j5]at f;refine ba (bK.mp f) λa e b=>?_;obtain⟨g,d,c,p⟩:=a;refine dp (eK b) λa b=>?_;refine dH a ?_;refine dp (eK b) λa b=>?_;obtain rfl:=a;refine dp (eK b) λa b=>?_;obtain rfl:=a;unfold JQ at b;rw[<-r9]at b;exact aY d e b
theorem PG (w:fb):∃os,fencedOpening j3 pw w 6200=aa ⟨fV w.params,#[],mJ,nQ,os⟩:=by have op:=boot_open (p:=pw) (N:=6200) (by kernel_rfl!) (by kernel_rfl!) (λj=>rfl) w;refine ba (bK.mp op) λa e g=>?_;obtain⟨h,i,d,k,os⟩:=a;refine lD (by simpa using g:h=fV w.params/\i=#[]/\d=mJ/\k=nQ) λa b c f=>?_;refine dH a ?_;obtain rfl:=b;obtain rfl:=c;obtain rfl:=f;exact⟨os,e⟩
variable {w:fb} {s:aM} {C:q8}
theorem Sp (r:topRun j3 pw w 11 (aa (.ref 6)) 6200 ⟨fV w.params,#[],mJ,nQ,C⟩ (yT pw)=aa s) (l:(OO pA oZ w s).1=ai):
  topFrom j3 pw w 6200 ⟨fV w.params,#[],mJ,nQ,C⟩=aa s:=by
 have a:((fV w.params).isNs kH&&(#[]:bZ w6).size==0)=ai:=by kernel_rfl!
 have b:(fV w.params).objs.size=11:=by kernel_rfl!
 have c:(fV w.params).nsMap kH "__annotations__"=aa (.ref 6):=by kernel_rfl!
 unfold topFrom;dsimp only;rw[a,b,c,r];show(match yf (lL pw.main.body) (fV w.params) s.heap&&w5 pw s.heap&&Af s&&Ag (fV w.params) s.heap with|true=>_|false=>_)=_;rw[show(yf (lL pw.main.body) (fV w.params) s.heap&&w5 pw s.heap&&Af s&&Ag (fV w.params) s.heap)=ai from l]
theorem JS (h:topRun j3 pw w 11 (aa (.ref 6)) (12+(1+(3100+2))) ⟨fV w.params,#[],mJ,nQ,C⟩ (yT pw)=aa s):
  topRun j3 pw w 11 (aa (.ref 6)) 6200 ⟨fV w.params,#[],mJ,nQ,C⟩ (yT pw)=aa s:=by
 have r:=topRun_mono 3085 _ _ _ _ h
 rwa [show 12+(1+(3100+2))+3085=6200 from rfl]at r
theorem JT {p:Program} {N:af} {a:aM} (e:fencedOpening j3 p w N=aa a) (t:topFrom j3 p w N a=aa s):openEnds j3 p w N=aa s:=by unfold openEnds;rw[e];exact t
theorem PH:LeftO pw pA oZ (λs=>recOk [] s) m5.obs m5.val 6200:=λw=>by refine ck (PG w) λC e=>?_;refine ba (So w C) λc b a=>?_;rw[JT e (Sp (JS (JR w C b)) (aU lU a))];exact aU (λx=>aa x.2) a
end
section
open PySem PySem.W PySem.Calls PyProof.Rows
theorem Hf:jK.wellSaid=ai:=by rw[show OpenLaw.wellSaid=_ from Fast.te9446332074065402090];decide+kernel
noncomputable def lO:DefRec:=EF ⟨Str.empty,default,[],default,default⟩ (λn a b c p=>⟨n,a,b,c,p⟩) (fQ 79)
noncomputable abbrev Sq:OpenRow:=jK.row
theorem VJ (call:WalkO pA oZ (λa a=>True) m5.says Sq.toRowW lO [] λf b=>PySem.call f b):jK.Holds:=by
 refine⟨Hf,holds_open PH m5.of m5.keeps
  (λa a=>trivial) (λa a a a a=>trivial) (by kernel_rfl!) (by kernel_rfl!) (by kernel_rfl!) (λs e=>recFacts_of e) (by kernel_rfl!) (row_said Hf) (by decide+kernel) ⟨by kernel_rfl!,by kernel_rfl!,by kernel_rfl!,by kernel_rfl!,by kernel_rfl!,by decide+kernel⟩ (aY ([.list []]) (by decide+kernel) (by decide+kernel)) call⟩
end
section
open PySem
noncomputable abbrev KO:=cI->au q9
noncomputable def nm (x:cI):au aC:=let s:=x.toString;if aZ s=x then aa s else ah
noncomputable def JU:Const->au AV
 |.none=>aa .n
 |.bool b=>aa (.b b)
 |.int i=>aa (.i i)
 |.str s=>aa (.s s.cps.toList)
 |_=>ah
noncomputable def Ca (b:KO) (a:Scope):bD:=
 (a.kind==.function)&&a.names.all (λy=>y.2!=.cell&&(y.2!=.local||a.names.lookup y.1==aa .local)&&(y.2!=.free||b y.1==aa .cell||b y.1==aa .free))
noncomputable def inner (a:KO) (b:Scope):KO:=λx=>(b.names.map λ(n,k)=>if(k==lA&&a n==aa .cell)then(n,r_)else(n,k)).lookup x
noncomputable def fJ {α b:Type} (f:α->au b):ae α->au (ae b)
 |[]=>aa []
 |a::r=>(f a).bind λx=>(fJ f r).bind λy=>aa (x::y)
noncomputable def zD {α b:Type} (f:α->au b):au α->au (au b)
 |none=>aa ah
 |some a=>(f a).bind λx=>aa (aa x)
noncomputable def rZ {α:Type}:ae α->au α
 |[]=>ah
 |a::r=>match r with|[]=>aa a|_::_=>ah
noncomputable def eX {α:Type} (d:α) (g:cI->α) (h:bk->cI->Pos->α) (j:au bk->au bk->au bk->α) (sub:bk->bk->α) (m:Const->α) (tup:ae bk->α) (q:bk->ae bk->ae Keyword->Pos->α) (un:UnaryOp->bk->α) (y:BoolOp->ae bk->α) (bin:bk->jI->bk->α) (z:bk->bk->bk->α) (u:ae (au bk)->ae bk->α) (lst:ae bk->α) (cmp:bk->ae qb->ae bk->α) (A:bk->ae gx->Scope->Pos->α) (B:bk->bk->ae gx->Scope->Pos->α) (C:α) (e:bk):α:=match e with|.Name x _=>g x|.Attribute o n p=>h o n p|.Slice a b c _=>j a b c|.Subscript o i _=>sub o i|.Constant c _ _=>m c|.Tuple ts _ _=>tup ts|.Call f a k p=>q f a k p|.UnaryOp op x _=>un op x|.ListComp e w s p=>A e w s p|.DictComp k v w s p=>B k v w s p|.SetComp ..=>C|.BoolOp op vs _=>y op vs|.IfExp t a b _=>z t a b|.Compare l os rs _=>cmp l os rs|.BinOp l op r _=>bin l op r|.List es _=>lst es|.Dict D vs _=>u D vs|_=>d
noncomputable def eC {α:Type} (d:α) (e:cI->α) (g:bk->cI->Pos->α) (h:au bk->au bk->au bk->α) (sub:bk->bk->α) (i:Const->α) (tup:ae bk->α) (j:bk->ae bk->ae Keyword->α) (un:UnaryOp->α) (c l m cmp:α):bk->α:=
 eX d e g h sub i tup (λf a k b=>j f a k) (λop b=>un op) (λb b=>l) (λb b b=>d) (λb b b=>m) (λb b=>d) (λb=>d) (λb b b=>cmp) (λb b b b=>c) (λb b b b b=>c) c
noncomputable def rI:bk->bD:=eC aD (λb=>aD) (λb b b=>aD) (λb b b=>aD) (λb b=>aD) (λb=>aD) (λb=>aD) (λf a k=>a.isEmpty&&(k.isEmpty&&eC aD (λid=>id==("super":cI)) (λb b b=>aD) (λb b b=>aD) (λb b=>aD) (λb=>aD) (λb=>aD) (λb b b=>aD) (λb=>aD) aD aD aD aD f)) (λb=>aD) aD aD aD aD
noncomputable def sX {α:Type} (d:α) (k:bk->α) (asg:ae bk->bk->α) (aug:bk->jI->bk->α) (iff:bk->ae et->ae et->α) (g:bk->bk->ae et->ae et->α) (ret:au bk->α) (j:au bk->au bk->α) (h:ae et->ae ExceptHandler->ae et->ae et->α) (s:et):α:=match s with|.Expr e _=>k e|.Assign ts v _=>asg ts v|.AugAssign t op v _=>aug t op v|.If t a b _=>iff t a b|.For t i b e _=>g t i b e|.Return e _=>ret e|.Raise e c _=>j e c|.Try b l o f _=>h b l o f|_=>d
noncomputable def sC {α:Type} (d t:α) (a:ae bk->bk->α):et->α:=sX d (λb=>d) a (λb b b=>d) (λb b b=>d) (λb b b b=>d) (λb=>d) (λb b=>d) (λb b b b=>t)
noncomputable def yD:bk->au cI:=eC ah aa (λa a a=>ah) (λa a a=>ah) (λa a=>ah) (λa=>ah) (λa=>ah) (λa a a=>ah) (λa=>ah) ah ah ah ah
noncomputable def wy:bk->au (bk×cI×Pos):=eC ah (λa=>ah) (λo n p=>aa (o,n,p)) (λa a a=>ah) (λa a=>ah) (λa=>ah) (λa=>ah) (λa a a=>ah) (λa=>ah) ah ah ah ah
noncomputable def Ip:bk->au (au bk×au bk):=eC ah (λa=>ah) (λa a a=>ah) (λlo b st=>match st with|none=>aa (lo,b)|some _=>ah) (λa a=>ah) (λa=>ah) (λa=>ah) (λa a a=>ah) (λa=>ah) ah ah ah ah
noncomputable def Mn:bk->au (bk×bk):=eC ah (λa=>ah) (λa a a=>ah) (λa a a=>ah) (λo i=>aa (o,i)) (λa=>ah) (λa=>ah) (λa a a=>ah) (λa=>ah) ah ah ah ah
noncomputable def OP:et->au (ae bk×bk):=sC ah ah λa v=>aa (a,v)
noncomputable def Cb {α b:Type} (o:au α) (f:α->au b) (g:au b):au b:=match o with|some a=>f a|none=>g
noncomputable def Iq (g:gx):au (cI×bk×ae bk):=(yD g.target).bind λx=>if decide (g.is_async=0)then aa (x,g.iter,g.ifs)else ah
noncomputable def AH (a:Scope) (x:cI):bD:=a.names.lookup x==aa .local
noncomputable def JV (x:aC):au q9->au IE
 |none=>ah
 |some k=>match k with|.local=>aa (.v x)|.cell=>aa (.c x)|.free=>aa (.c x)|.globalImplicit=>aa (.g x)|.globalExplicit=>ah
noncomputable def OQ:bk->af:=eC 0 (λa=>0) (λa a a=>0) (λa a a=>0) (λa a=>0) (λa=>0) (λa=>0) (λa a a=>0) (λop=>match op with|.Not=>1|_=>0) 0 2 3 4
noncomputable def D1 (e:IE):af:=[0,0,0,0,0,0,1,2,4,4,3].getD e.ctorIdx 0
section
variable (J:KO->bk->au IE) (I:KO) (C:Scope)
abbrev Gn:=cI×bk×ae bk
noncomputable def VQ (e:IE) (x:aC) (i:IE) (c:bk):au IE:=(J (inner I C) c).bind λc=>aa (.k e x i (aa c))
noncomputable def VS (q:Gn) (e:IE) (x:aC) (i:IE) (y:aC):au IE:=(J (inner I C) q.2.1).bind λa=>aa (.q e x i y a)
noncomputable def VT (p:Gn) (e:IE) (x:aC) (i:IE) (q:Gn):au IE:=if p.2.2.isEmpty&&q.2.2.isEmpty&&AH C q.1&&p.1!=q.1 then(nm q.1).bind (VS J I C q e x i)else ah
noncomputable def VU (p:Gn) (e:IE) (x:aC) (i:IE) (g:gx):au IE:=(Iq g).bind (VT J I C p e x i)
noncomputable def VV (a:ae gx) (p:Gn) (e:IE) (x:aC) (i:IE):au IE:=match a with
 |[]=>(match p.2.2 with
  |[]=>aa (.k e x i ah)
  |c::cs=>(rZ (c::cs)).bind (VQ J I C e x i))
 |g::a=>(rZ (g::a)).bind (VU J I C p e x i)
noncomputable def VW (a:ae gx) (p:Gn) (e:IE) (x:aC):au IE:=(J I p.2.1).bind (VV J I C a p e x)
noncomputable def VX (a:ae gx) (p:Gn) (e:IE):au IE:=(nm p.1).bind (VW J I C a p e)
noncomputable def VY (a:bk) (C:Scope) (b:ae gx) (p:Gn):au IE:=if Ca I C&&AH C p.1 then(J (inner I C) a).bind (VX J I C b p)else ah
noncomputable def VZ (p:Gn) (k v:IE) (y:aC):au IE:=(J I p.2.1).bind λi=>aa (.j k v y i)
noncomputable def V0 (p:Gn) (k v:IE):au IE:=(nm p.1).bind (VZ J I p k v)
noncomputable def V1 (v:bk) (C:Scope) (p:Gn) (k:IE):au IE:=(J (inner I C) v).bind (V0 J I p k)
noncomputable def V2 (k v:bk) (C:Scope) (p:Gn):au IE:=if p.2.2.isEmpty&&(Ca I C&&AH C p.1)then(J (inner I C) k).bind (V1 J I v C p)else ah
noncomputable def V3 (k v:bk) (C:Scope) (g:gx):au IE:=(Iq g).bind (V2 J I k v C)
end
noncomputable def D2 (q:KO->bk->au IE) (j:KO):bk->au IE:=eX ah
 (λid=>if !(id==("__debug__":cI)||id==("__classdict__":cI))then(nm id).bind λx=>JV x (j id)else ah)
 (λo x z=>if !rI o then(q j o).bind λa=>(nm x).bind λx=>aa (.a a x)else ah)
 (λz z z=>ah)
 (λv i=>(q j v).bind λa=>Cb (Ip i) (λp=>(zD (q j) p.1).bind λl=>(zD (q j) p.2).bind λh=>aa (.e a l h)) ((q j i).bind λi=>aa (.u a i)))
 (λc=>(JU c).map .l)
 (λD=>(fJ (q j) D).map .p)
 (λf args A pos=>if A.isEmpty&&decide (args.length<=20)then(fJ (q j) args).bind λy=>Cb (wy f)
   (λp=>if !rI p.1&&p.2.2.endLine==pos.line then(q j p.1).bind λa=>(nm p.2.1).bind λx=>aa (.h a x y)else ah)
   ((q j f).bind λg=>aa (.f g y))else ah)
 (λop x=>(match op with
   |.Not=>(q j x).map .t
   |.USub=>(q j x).map .n
   |_=>ah))
 (λop y=>(fJ (q j) y).map (.o op))
 (λl op r=>(q j l).bind λa=>(q j r).bind λb=>aa (.b op a b))
 (λt a b=>(q j t).bind λt=>(q j a).bind λa=>(q j b).bind λb=>aa (.i t a b))
 (λA y=>(fJ (λo=>o.bind (q j)) A).bind λA=>(fJ (q j) y).bind λy=>aa (.d A y))
 (λD=>(fJ (q j) D).map .s)
 (λl w C=>(match w with
   |[]=>ah
   |op::w=>(match w with
    |[]=>(q j l).bind λa=>(rZ C).bind λr=>(q j r).bind λb=>aa (.m a op b)
    |E::w=>(match w,C with
     |[],r::C=>(q j l).bind λa=>(q j r).bind λb=>(rZ C).bind λr=>(q j r).bind λc=>aa (.M a op b E c)
     |_,_=>ah))))
 (λF B G z=>(match B with
   |[]=>ah
   |g::B=>(Iq g).bind (VY q j F G B)))
 (λk v B G z=>(rZ B).bind (V3 q j k v G))
 ah
noncomputable def dW:af->KO->bk->au IE
 |0,_,_=>ah
 |n+1,a,e=>(D2 (dW n) a e).bind λr=>if D1 r==OQ e then aa r else ah
noncomputable def gZ:bk->bD:=eC aD (λa=>aD) (λa a a=>aD) (λa a a=>aD) (λa a=>aD) (λa=>aD) (λa=>aD) (λa a a=>aD) (λa=>aD) ai aD aD aD
noncomputable def uy:bk->bD:=eC aD (λa=>aD) (λa a a=>aD) (λa a a=>aD) (λa a=>aD) (λa=>aD) (λa=>ai) (λa a a=>aD) (λa=>aD) aD aD aD aD
noncomputable def Sr (e:IE):bD:=e.ctorIdx==18||e.ctorIdx==17
noncomputable def yE (a:KO) (e:bk):au aC:=(yD e).bind λx=>if a x==aa .local then nm x else ah
noncomputable def pU (b:KO):bk->au Tgt:=eC ah (λx=>(nm x).bind λy=>if b x==aa .local then aa (.v y)else if b x==aa .cell then aa (.c y)else ah) (λa a a=>ah) (λa a a=>ah) (λa a=>ah) (λa=>ah) (λd=>(fJ (yE b) d).map .p) (λa a a=>ah) (λa=>ah) ah ah ah ah
noncomputable def D3 (e:IE) (c:bD):Tgt->au IS
 |.v y=>if c&&fG e then ah else aa (.a y e)
 |.c y=>if c then ah else aa (.c y e)
 |.p xs=>if c then ah else aa (.t xs e)
noncomputable def OS:bk->bD:=eC aD (λa=>aD) (λa a a=>aD) (λa a a=>aD) (λa a=>aD) (λc=>match c with|.none=>ai|_=>aD) (λa=>aD) (λa a a=>aD) (λa=>aD) aD aD aD aD
noncomputable def EH:ExceptHandler->au (cI×cI)
 |.ExceptHandler t n b _=>t.bind λt=>(yD t).bind λc=>if n.isNone then(rZ b).bind λs=>(OP s).bind λq=>(rZ q.1).bind λt=>(yD t).bind λx=>if OS q.2 then aa (c,x)else ah else ah
noncomputable def Cc:bk->bD:=eC aD (λa=>aD) (λa a a=>aD) (λa a a=>aD) (λa a=>aD) (λa=>aD) (λa=>aD) (λf args a=>(wy f).isNone&&(rZ args).isSome) (λa=>aD) aD aD aD aD
noncomputable def D4:et->af:=sC 0 1 λa a=>2
noncomputable def JW (s:IS):af:=[0,2,2,2,2,2,0,0,0,0,0,0,1].getD s.ctorIdx 0
noncomputable def OT (j:KO->bk->au IE) (k:KO->et->au IS) (d:KO):et->au IS:=sX ah
 (λe=>if !gZ e then(j d e).bind λe=>if Sr e then aa (.e e)else ah else ah)
 (λm v=>(rZ m).bind λt=>(j d v).bind λe=>Cb (wy t) (λp=>if !gZ v then(j d p.1).bind λo=>(nm p.2.1).bind λx=>aa (.o o x e)else ah)
    (Cb (Mn t) (λp=>if !gZ v&&(Ip p.2).isNone then(j d p.1).bind λo=>(j d p.2).bind λi=>aa (.s o i e)else ah)
     (if !(uy t&&uy v)then(pU d t).bind (D3 e (gZ v))else ah)))
 (λt op v=>(j d v).bind λe=>Cb (yD t) (λx=>if d x==aa .local then(nm x).bind λx=>aa (.g x op e)else ah)
    ((Mn t).bind λp=>if(Ip p.2).isNone then(j d p.1).bind λo=>(j d p.2).bind λi=>aa (.u o i op e)else ah))
 (λt a b=>(j d t).bind λt=>(fJ (k d) a).bind λa=>(fJ (k d) b).bind λb=>aa (.i t a b))
 (λt n body l=>if l.isEmpty then(pU d t).bind λx=>(j d n).bind λi=>(fJ (k d) body).bind λb=>aa (.f x i b)else ah)
 (λe=>e.bind λe=>(j d e).map .r)
 (λe c=>if c.isNone then e.bind λe=>if Cc e then(j d e).map .x else ah else ah)
 (λbody q o f=>if o.isEmpty&&f.isEmpty then(rZ q).bind λh=>(EH h).bind λp=>if d p.2==aa .local&&d p.1==aa .globalImplicit then
    (fJ (k d) body).bind λb=>(nm p.1).bind λc=>(nm p.2).bind λx=>aa (.y b c x)else ah else ah)
noncomputable def oB:af->KO->et->au IS
 |0,_,_=>ah
 |n+1,a,s=>(OT (dW n) (oB n) a s).bind λr=>if JW r==D4 s then aa r else ah
noncomputable abbrev JX (a:KO) (b:ae et):au (ae IS):=fJ (oB 50 a) b
noncomputable def vy (a:Scope):ae cI:=(a.names.filter λy=>y.2==.cell).map (·.1)
noncomputable abbrev AI (l:ae cI):au (ae aC):=fJ nm l
noncomputable def Vb (args:Arguments) (body:ae et) (e:Scope) (a:ae AV):au FD:=
 (AI (args.args.map (·.arg))).bind λf=>(AI (vy e)).bind λg=>(JX (λx=>e.names.lookup x) body).bind λb=>aa {p:=f,d:=a,c:=g,b:=b}
section
variable {J I:Type} {o:au J} {e:I} {P:Prop} {C:I->Prop}
theorem ob {f:J->au I} (h:o.bind f=aa e) (k:∀a,o=aa a->f a=aa e->P):P:=by induction o using cX with|none=>exact nomatch h|some a=>exact k a rfl h
@[elab_as_elim] theorem om {g:J->I} (h:o.map g=aa e) (k:∀a,o=aa a->C (g a)):C e:=by induction o using cX with|none=>exact nomatch h|some a=>exact aw h▸k a rfl
theorem g_ {p:bD} {a:au I} (h:(if p=ai then a else ah)=aa e) (k:p=ai->a=aa e->P):P:=by induction p using b_ with|true=>exact k rfl h|false=>exact nomatch h
@[elab_as_elim] theorem jN {x:I} (h:aa x=aa e) (k:C x):C e:=aw h▸k
end
variable {J R:Type} {e:bk} {s:et} {f:J->au R} {P:Prop} {a:J} {x:cI} {m:af} {I:KO}
theorem CZ {o:au J} {g:au R} {e:R} (h:Cb o f g=aa e) (k:∀a,o=aa a->f a=aa e->P) (q:o=ah->g=aa e->P):P:=by induction o using cX with|none=>exact q rfl h|some a=>exact k a rfl h
theorem bO (h:ah=aa a):P:=nomatch h
theorem j_ {l:ae J} (h:rZ l=aa a):l=[a]:=by
 induction l using aV with
 |nil=>exact nomatch h
 |cons b r=>induction r using aV with|nil=>exact aU (λx=>[x]) (aw h)|cons _ _=>exact nomatch h
theorem eN {d:cI->au J} {f:bk->cI->Pos->au J} {g:au bk->au bk->au bk->au J} {sub:bk->bk->au J} {P:bk->au J->Prop} (hd:∀e,P e ah) (i:∀x p,P (.Name x p) (d x)) (j:∀o n p,P (.Attribute o n p) (f o n p)) (k:∀a b c p,P (.Slice a b c p) (g a b c)) (l:∀a b p,P (.Subscript a b p) (sub a b)) (e:bk):
  P e (eC ah d f g sub (λh=>ah) (λh=>ah) (λh h h=>ah) (λh=>ah) ah ah ah ah e):=by
 induction e using Expr.casesOn<;>first|exact hd _|exact i _ _|exact j _ _ _|exact k _ _ _ _|exact l _ _ _
theorem sN {d u:J} {a:ae bk->bk->J} {P:et->J->Prop} (hd:∀s,P s d) (e:∀b g o f p,P (.Try b g o f p) u) (h:∀c v p,P (.Assign c v p) (a c v)) (s:et):P s (sC d u a s):=by induction s using Stmt.casesOn<;>first|exact hd _|exact e _ _ _ _ _|exact h _ _ _
theorem tK (h:yD e=aa x):∃p,e=.Name x p:=
 eN (P:=λe r=>r=aa x->∃p,e=.Name x p) (λa=>bO) (λa p h=>⟨p,aU (λx=>Expr.Name x p) (aw h)⟩) (λa a a=>bO) (λa a a a=>bO) (λa a a=>bO) e h
theorem Cd {g:gx} {p:cI×bk×ae bk} (h:Iq g=aa p):∃a,g=⟨.Name p.1 a,p.2.1,p.2.2,0⟩:=by induction g using Comprehension.casesOn;exact ob h λx b h=>g_ h λc h=>ck (tK b) λa e=>⟨a,by refine dH (aw h) ?_;refine dH e ?_;refine dH (bC c) ?_;exact rfl⟩
theorem PI {p:au bk×au bk} (h:Ip e=aa p):∃q,e=.Slice p.1 p.2 ah q:=
 eN (P:=λe r=>r=aa p->∃q,e=.Slice p.1 p.2 ah q) (λa=>bO) (λa a=>bO) (λa a a=>bO) (λlo b st q h=>by
  induction st using cX with
  |some _=>exact bO h
  |none=>exact⟨q,by refine dH (aw h) ?_;rfl⟩) (λa a a=>bO) e h
theorem EI {p:bk×cI×Pos} (h:wy e=aa p):e=.Attribute p.1 p.2.1 p.2.2:=
 eN (P:=λe r=>r=aa p->e=.Attribute p.1 p.2.1 p.2.2) (λa=>bO) (λa a=>bO) (λa a a h=>by refine dH (aw h) ?_;rfl) (λa a a a=>bO) (λa a a=>bO) e h
theorem Hg {p:bk×bk} (h:Mn e=aa p):∃q,e=.Subscript p.1 p.2 q:=
 eN (P:=λe r=>r=aa p->∃q,e=.Subscript p.1 p.2 q) (λa=>bO) (λa a=>bO) (λa a a=>bO) (λa a a a=>bO) (λa a q h=>⟨q,by refine dH (aw h) ?_;rfl⟩) e h
theorem Mo {p:ae bk×bk} (h:OP s=aa p):∃q,s=.Assign p.1 p.2 q:=
 sN (P:=λs r=>r=aa p->∃q,s=.Assign p.1 p.2 q) (λa=>bO) (λa a a a a=>bO) (λa a q h=>⟨q,by refine dH (aw h) ?_;rfl⟩) s h
theorem PJ (h:D4 s=1):∃b a o f p,s=.Try b a o f p:=
 sN (P:=λs r=>r=1->∃b a o f p,s=.Try b a o f p) (λc h=>nomatch h) (λb a o f p c=>⟨b,a,o,f,p,rfl⟩) (λc c c h=>nomatch h) s h
theorem PK (h:D4 s=2):∃b v p,s=.Assign b v p:=
 sN (P:=λs r=>r=2->∃b v p,s=.Assign b v p) (λa h=>nomatch h) (λa a a a a h=>nomatch h) (λb v p a=>⟨b,v,p,rfl⟩) s h
theorem vz {ast:bk} {e:IE} (h:dW m I ast=aa e):∃a,m=a+1/\D2 (dW a) I ast=aa e/\D1 e=OQ ast:=by induction m using gC with|zero=>exact bO h|succ m=>exact ob h λr b h=>g_ h λc h=>aw h▸(dS m rfl b (eq_of_beq c))
theorem Ce {ast:et} {i:IS} (h:oB m I ast=aa i):∃a,m=a+1/\OT (dW a) (oB a) I ast=aa i/\JW i=D4 ast:=by induction m using gC with|zero=>exact bO h|succ m=>exact ob h λr b h=>g_ h λc h=>aw h▸(dS m rfl b (eq_of_beq c))
theorem zE:∀{l:ae J} {m:ae R},fJ f l=aa m->l.length=m.length:=by intro l;induction l with|nil=>exactλh=>jN h rfl|cons a r c=>exactλh=>ob h λb b h=>ob h λb d h=>jN h (aU (·+1) (c d))
theorem pV {y:aC} (h:nm x=aa y):aZ y=x:=by
 unfold nm at h;by_cases e:aZ x.toString=x
 ·rw[aF e]at h;exact aw h▸e
 ·rw[aG e]at h;exact nomatch h
end
section
open PySem PySem.W PyProof.Rows
noncomputable def eO (x:ae af):cI:=⟨x.toArray⟩
theorem Hh {x y:ae af} (h:eO x=eO y):x=y:=aU (λs=>s.cps.toList) h
theorem pB (x:ae af):(eO x).length=x.length:=rfl
theorem AJ (x y:ae af):eO x++eO y=eO (x++y):=by show Str.append _ _=_;simp[Str.append,eO]
noncomputable abbrev r5 (a:ae aE) (n:af):fK:={cls:=.type "tuple",data:=.seq a.toArray n}
noncomputable abbrev mz (a:ae aE) (n:af):fK:={cls:=.type "list",data:=.seq a.toArray n}
noncomputable abbrev D5 (C d:bh):fK:={cls:=.ref C,dict:=aa d,data:=.plain}
noncomputable abbrev mA (a:ae ew) (n:af):fK:={cls:=.type "dict",data:=.dict a.toArray n}
noncomputable abbrev Ir (a b:aq) (t u v:Tok):fK:={cls:=.type "range",data:=.fields #[.int a t,.int b u,.int 1 v]}
noncomputable abbrev uA (fd:FuncData):fK:={cls:=.type "function",data:=.func fd}
inductive gK:fK->Prop
 |tup (us:ae aE) (n:af):gK (r5 us n)
 |rng (a b:aq) (t u v:Tok):gK (Ir a b t u v)
 |fn (fd:FuncData):gK (uA fd)
structure Cfg where
 prog:Program
 w:fb
 P:Prog
 h₀:dj
 fa:aC->au bh
 ca:aC->au bh
 K:Frag
noncomputable abbrev Cfg.M (c:Cfg):Model:=model c.prog c.w
inductive EJ:ae AV->ae aE->Prop
 |nil:EJ [] []
 |int {i:aq} {t:Tok} {vs:ae AV} {us:ae aE}:EJ vs us->EJ (.i i::vs) (.int i t::us)
structure tL (c:Cfg) (f:aC) (fd:FuncData) (afd:FD) (body:ae et):Prop where
 fns:c.P.f f=aa afd
 bd:fd.body=.stmts body
 tb:JX (λx=>fd.scope.names.lookup x) body=aa afd.b
 cells:AI (vy fd.scope)=aa afd.c
 nodup:afd.p.Nodup
 pk:∀p∈afd.p,fd.scope.names.lookup (aZ p)=aa (if afd.c.contains p then .cell else .local)
 dv:∃dv,EJ afd.d dv/\∀(s:aM) (us:ae aE),(∀a o,c.h₀.get? a=aa o->s.heap.get? a=aa o)->us.length<=afd.p.length->afd.p.length<=us.length+dv.length->
  BindsTo s fd ⟨us,[]⟩ ((afd.p.map aZ).zip (us++dv.drop (dv.length+us.length-afd.p.length)))
 plain:afd.c=[]\/(fd.closure=[]/\afd.d=[]/\afd.c.Nodup/\∀us:ae aE,us.length=afd.p.length->pd fd ⟨us,[]⟩=pure ((afd.p.map aZ).zip us))
 fre:∀x,fd.scope.names.lookup x=aa .free->∃b,fd.closure.lookup x=aa b
 kind:fd.scope.kind=.function
 co:fd.scope.isCoroutine=aD
 gen:fd.scope.isGenerator=aD
 glob:fd.globals=kH
 bt:fd.builtins=builtinsNs
 code:c.h₀.CodeRec fd.code fd.qualname
mutual
inductive VR (c:Cfg) (ρ:ae bh) (h:dj):AV->aE->Prop
 |none:VR c ρ h .n .none
 |bool (b:bD):VR c ρ h (.b b) (.bool b)
 |int (i:aq) (t:Tok):VR c ρ h (.i i) (.int i t)
 |str (x:ae af) (t:Tok):VR c ρ h (.s x) (.str (eO x) t)
 |tup {vs:ae AV} {us:ae aE} {a:bh} {n:af}:h.get? a=aa (r5 us n)->fq c ρ h vs us->VR c ρ h (.t vs) (.ref a)
 |loc {k:af} {a:bh}:ρ[k]?=aa a->VR c ρ h (.l k) (.ref a)
 |rng {x y:aq} {a:bh} {t u v:Tok}:h.get? a=aa (Ir x y t u v)->VR c ρ h (.r x y) (.ref a)
 |clo {f:aC} {cs:ae (aC×af)} {a:bh} {fd:FuncData} {afd:FD} {body:ae et}:h.get? a=aa (uA fd)->tL c f fd afd body->
   (∀x k,cs.lookup x=aa k->∃b,fd.closure.lookup (aZ x)=aa b/\ρ[k]?=aa b)->VR c ρ h (.o f cs) (.ref a)
 |fn {f:aC} {a:bh}:c.fa f=aa a->VR c ρ h (.f f) (.ref a)
 |cls {k:aC} {a:bh}:c.ca k=aa a->VR c ρ h (.c k) (.ref a)
 |bi (id:aC):VR c ρ h (.u id) (.builtin id)
 |ty (n:aC):VR c ρ h (.y n) (.type n)
inductive fq (c:Cfg) (ρ:ae bh) (h:dj):ae AV->ae aE->Prop
 |nil:fq c ρ h [] []
 |cons {v:AV} {u:aE} {vs:ae AV} {us:ae aE}:VR c ρ h v u->fq c ρ h vs us->fq c ρ h (v::vs) (u::us)
end
section
variable {c:Cfg} {I R:ae bh} {h U:dj}
def UY (c:Cfg) (I:ae bh) (h:dj) (u:aE):AV->Prop
 |.n=>u=.none
 |.b b=>u=.bool b
 |.i i=>∃t,u=.int i t
 |.s x=>∃t,u=.str (eO x) t
 |.t vs=>∃a n e,u=.ref a/\h.get? a=aa (r5 e n)/\fq c I h vs e
 |.l k=>∃a,u=.ref a/\I[k]?=aa a
 |.r x y=>∃a t v w,u=.ref a/\h.get? a=aa (Ir x y t v w)
 |.o f cs=>∃a fd d body,u=.ref a/\h.get? a=aa (uA fd)/\tL c f fd d body/\∀x k,cs.lookup x=aa k->∃b,fd.closure.lookup (aZ x)=aa b/\I[k]?=aa b
 |.f f=>∃a,u=.ref a/\c.fa f=aa a
 |.c k=>∃a,u=.ref a/\c.ca k=aa a
 |.u id=>u=.builtin id
 |.y n=>u=.type n
variable {J:ae AV} {v:AV} {u:aE}
theorem VR.inv (r:VR c I h v u):UY c I h u v:=by cases r with|tup e r=>exact l7 _ _ _ rfl e r|loc e=>exact aY _ rfl e|rng e=>exact⟨_,_,_,_,rfl,e⟩|clo e f k=>exact pn _ _ _ _ rfl e f k|fn e=>exact aY _ rfl e|cls e=>exact aY _ rfl e|int _ t=>exact⟨t,rfl⟩|str _ t=>exact⟨t,rfl⟩|_=>exact rfl
section
variable {C:aE->Prop} {u:aE}
@[elab_as_elim] theorem VR.int_e {i:aq} (r:VR c I h (.i i) u) (k:∀t,C (.int i t)):C u:=ck r.inv λt e=>e▸k t
@[elab_as_elim] theorem VR.str_e {x:ae af} (r:VR c I h (.s x) u) (k:∀t,C (.str (eO x) t)):C u:=ck r.inv λt e=>e▸k t
@[elab_as_elim] theorem VR.tup_e {J:ae AV} (r:VR c I h (.t J) u) (k:∀a n b,h.get? a=aa (r5 b n)->fq c I h J b->C (.ref a)):C u:=lq r.inv λa n b e g q=>e▸k a n b g q
@[elab_as_elim] theorem VR.loc_e {i:af} (r:VR c I h (.l i) u) (k:∀a,I[i]?=aa a->C (.ref a)):C u:=ba r.inv λa e g=>e▸k a g
@[elab_as_elim] theorem VR.none_e (r:VR c I h .n u) (k:C .none):C u:=(show u=_ from r.inv)▸k
@[elab_as_elim] theorem VR.bool_e {b:bD} (r:VR c I h (.b b) u) (k:C (.bool b)):C u:=(show u=_ from r.inv)▸k
@[elab_as_elim] theorem VR.rng_e {x y:aq} (r:VR c I h (.r x y) u) (k:∀a t v w,h.get? a=aa (Ir x y t v w)->C (.ref a)):C u:=B4 r.inv λa t v w e g=>e▸k a t v w g
variable {f i:aC}
@[elab_as_elim] theorem VR.clo_e {cs:ae (aC×af)} (r:VR c I h (.o f cs) u) (k:∀a fd d body,h.get? a=aa (uA fd)->tL c f fd d body->(∀x k,cs.lookup x=aa k->∃b,fd.closure.lookup (aZ x)=aa b/\I[k]?=aa b)->C (.ref a)):C u:=
 lE r.inv λa fd d b e g q p=>e▸k a fd d b g q p
@[elab_as_elim] theorem VR.fn_e (r:VR c I h (.f f) u) (k:∀a,c.fa f=aa a->C (.ref a)):C u:=ba r.inv λa e g=>e▸k a g
@[elab_as_elim] theorem VR.cls_e (r:VR c I h (.c f) u) (k:∀a,c.ca f=aa a->C (.ref a)):C u:=ba r.inv λa e g=>e▸k a g
@[elab_as_elim] theorem VR.bi_e (r:VR c I h (.u i) u) (k:C (.builtin i)):C u:=(show u=_ from r.inv)▸k
@[elab_as_elim] theorem VR.ty_e (r:VR c I h (.y i) u) (k:C (.type i)):C u:=(show u=_ from r.inv)▸k
end
section
variable {C:ae aE->Prop} {R:ae aE}
@[elab_as_elim] theorem fq.nil_e (r:fq c I h [] R) (k:C []):C R:=(show R=[]by cases r with|nil=>rfl)▸k
@[elab_as_elim] theorem fq.cons_e {v:AV} {J:ae AV} (r:fq c I h (v::J) R) (k:∀u R,VR c I h v u->fq c I h J R->C (u::R)):C R:=by cases r with|cons a r=>exact k _ _ a r
end
theorem VR.map (k:∀(i:af) (a:bh),I[i]?=aa a->R[i]?=aa a) (f:∀a o,gK o->h.get? a=aa o->U.get? a=aa o) {v:AV} {u:aE} (r:VR c I h v u):VR c R U v u:=
 VR.rec .none .bool .int .str (λe d q=>.tup (f _ _ (.tup ..) e) q) (λe=>.loc (k _ _ e)) (λe=>.rng (f _ _ (.rng ..) e))
  (λe q p=>.clo (f _ _ (.fn ..) e) q λx n g=>ba (p x n g) λb j l=>aY b j (k _ _ l)) .fn .cls .bi .ty .nil (λd d a b=>.cons a b) r
theorem fq.map (k:∀(i:af) (a:bh),I[i]?=aa a->R[i]?=aa a) (f:∀a o,gK o->h.get? a=aa o->U.get? a=aa o) {v:ae AV} {u:ae aE} (r:fq c I h v u):fq c R U v u:=by revert u;induction v with|nil=>exactλr=>r.nil_e .nil|cons _ _ d=>exactλr=>r.cons_e λe e a b=>.cons (a.map k f) (d b)
theorem fq.length:∀{us:ae aE},fq c I h J us->J.length=us.length:=by induction J with|nil=>exactλr=>r.nil_e rfl|cons _ J d=>exactλr=>r.cons_e λa a a b=>aU (·+1) (d b)
theorem fq.append {d:ae AV} {xs:ae aE} (q:fq c I h d xs):∀{us:ae aE},fq c I h J us->fq c I h (J++d) (us++xs):=by induction J with|nil=>exactλr=>r.nil_e q|cons _ _ e=>exactλr=>r.cons_e λf f a b=>.cons a (e b)
theorem fq.get:∀{us:ae aE} {i:af},fq c I h J us->J[i]?=aa v->∃u,us[i]?=aa u/\VR c I h v u:=by
 induction J with
 |nil=>exactλf e=>bO e
 |cons w J d=>exactλ{us i} r=>r.cons_e λu us a b=>match i with|0=>λe=>aY u rfl (aw e▸a)|i+1=>λe=>(d b e:)
theorem fq.take:∀{us:ae aE} (n:af),fq c I h J us->fq c I h (J.take n) (us.take n):=by
 induction J with
 |nil=>exactλn r=>r.nil_e (by rw[kj,kj];exact .nil)
 |cons w J d=>exactλn r=>r.cons_e λe e a b=>match n with|0=>.nil|n+1=>.cons a (d n b)
theorem fq.drop:∀{us:ae aE} (n:af),fq c I h J us->fq c I h (J.drop n) (us.drop n):=by
 induction J with
 |nil=>exactλn r=>r.nil_e (by rw[sd,sd];exact .nil)
 |cons w J d=>exactλn r=>r.cons_e λe e a b=>match n with|0=>.cons a b|n+1=>d n b
theorem fq.set (x:VR c I h v u):∀{us:ae aE} (n:af),fq c I h J us->fq c I h (J.set n v) (us.set n u):=by
 induction J with
 |nil=>exactλn r=>r.nil_e .nil
 |cons w J d=>exactλn r=>r.cons_e λe e a b=>match n with|0=>.cons x b|n+1=>.cons a (d n b)
inductive mO (c:Cfg) (I:ae bh) (h:dj) (H:AV->aq):ae (AV×AV)->ae ew->Prop
 |nil:mO c I h H [] []
 |cons {k v:AV} {e:ew} {es:ae (AV×AV)} {ds:ae ew}:VR c I h k e.key->VR c I h v e.val->e.hash=H k->mO c I h H es ds->mO c I h H ((k,v)::es) (e::ds)
inductive rJ (c:Cfg) (I:ae bh) (h:dj):ae (aC×AV)->ae ew->Prop
 |nil:rJ c I h [] []
 |cons {x:aC} {t:Tok} {v:AV} {e:ew} {fs:ae (aC×AV)} {ds:ae ew}:e.key=.str (aZ x) t->VR c I h v e.val->rJ c I h fs ds->rJ c I h ((x,v)::fs) (e::ds)
theorem mO.map (k:∀(i:af) (a:bh),I[i]?=aa a->R[i]?=aa a) (f:∀a o,gK o->h.get? a=aa o->U.get? a=aa o) {H:AV->aq} {es:ae (AV×AV)} {ds:ae ew} (r:mO c I h H es ds):mO c R U H es ds:=by induction r with|nil=>exact .nil|cons a b e _ d=>exact .cons (a.map k f) (b.map k f) e d
theorem rJ.map (k:∀(i:af) (a:bh),I[i]?=aa a->R[i]?=aa a) (f:∀a o,gK o->h.get? a=aa o->U.get? a=aa o) {d:ae (aC×AV)} {ds:ae ew} (r:rJ c I h d ds):rJ c R U d ds:=by induction r with|nil=>exact .nil|cons a b _ e=>exact .cons a (b.map k f) e
end
mutual
noncomputable def jC (w:fb):AV->aq
 |.i i=>hashInt i
 |.s x=>hashStr w (eO x)
 |.t vs=>BU (jb (og w vs))
 |_=>0
noncomputable def og (w:fb):ae AV->ae aq
 |[]=>[]
 |v::vs=>jC w v::og w vs
end
def OR (c:Cfg) (e:ae bh) (h:dj) (a:bh):AO->Prop
 |.l vs=>∃g n,h.get? a=aa (mz g n)/\fq c e h vs g
 |.d es=>∃f n,h.get? a=aa (mA f n)/\mO c e h (jC c.w) es f/\(es.map (·.1)).Nodup
 |.i k d=>∃C b,h.get? a=aa (D5 C b)/\c.ca k=aa C/\e[d]?=aa b
 |.n j=>∃f n,h.get? a=aa (mA f n)/\rJ c e h j f/\(j.map (·.1)).Nodup
 |.c v=>∃u,h.IsCell a u/\(match v with
  |none=>u=ah
  |some v=>∃x,u=aa x/\VR c e h v x)
structure fN (ex:ae bh) (ρ:ae bh) (h:dj) (ρ':ae bh) (h':dj):Prop where
 pre:∃ns,ρ'=ρ++ns/\∀a∈ns,h.get? a=ah
 ext:∀a o,a∉ρ->a∉ex->h.get? a=aa o->h'.get? a=aa o
 fixed:∀a o,gK o->h.get? a=aa o->h'.get? a=aa o
 dom:∀a o,h.get? a=aa o->∃o',h'.get? a=aa o'
structure SR (c:Cfg) (ρ:ae bh) (σ:St) (h:dj):Prop where
 len:ρ.length=σ.length
 nodup:ρ.Nodup
 obj:∀(k:af) a o,ρ[k]?=aa a->σ[k]?=aa o->OR c ρ h a o
 base:∀a o,c.h₀.get? a=aa o->h.get? a=aa o
 fresh:∀a∈ρ,c.h₀.get? a=ah
structure Zs where
 ρ:ae bh
 σ:St
 s:aM
abbrev fz (c:Cfg) (z:Zs):Prop:=SR c z.ρ z.σ z.s.heap
abbrev Vz (c:Cfg) (z:Zs) (v:AV) (u:aE):Prop:=VR c z.ρ z.s.heap v u
abbrev lX (c:Cfg) (z:Zs) (v:ae AV) (u:ae aE):Prop:=fq c z.ρ z.s.heap v u
structure Good (c:Cfg) (ex:ae bh) (z z':Zs):Prop where
 step:fN ex z.ρ z.s.heap z'.ρ z'.s.heap
 sr:fz c z'
 gens:z'.s.gens=z.s.gens
 drawn:z'.s.drawn=z.s.drawn
 os:z'.s.os=z.s.os
section
variable {c:Cfg} {J U:ae bh} {σ:St} {h R:dj} {ex:ae bh} {a:bh}
variable {o:fK} {ex' ρ₂:ae bh} {h₂:dj} {D:bh}
theorem gF {P:Prop} (e:h.get? a=ah) (q:h.get? a=aa o):P:=bO (e.symm.trans q)
theorem fN.refl (ex J:ae bh) (h:dj):fN ex J h J h:=⟨aY ([]) ((aJ _).symm) (λa h=>nomatch h),λa a a a e=>e,λa a a e=>e,λa a e=>⟨_,e⟩⟩
theorem fN.get (s:fN ex J h U R) (k:af) (a:bh) (e:J[k]?=aa a):U[k]?=aa a:=by refine ba s.pre λb q c=>?_;rw[q,bM (aP.mp e).1];exact e
theorem fN.trans_get (s:fN ex J h U R) (t:fN ex' U R ρ₂ h₂) (k:af) (a:bh) (e:J[k]?=aa a):ρ₂[k]?=aa a:=t.get k a (s.get k a e)
theorem fN.transX (s:fN ex J h U R) (t:fN ex' U R ρ₂ h₂) (j:∀x∈ex',x∈ex\/h.get? x=ah):fN ex J h ρ₂ h₂:=by
 refine ba s.pre λk p d=>?_;refine ba t.pre λl q m=>?_;refine⟨aY (k++l) (by rw[q,p,aj]) (λa b=>(b7.mp b).elim (d a) λb=>?_),λa o g i e=>t.ext a o (λr=>?_) (λr=>(j a r).elim i λq=>gF q e) (s.ext a o g i e),
  λa o f e=>t.fixed a o f (s.fixed a o f e),λa o e=>ck (s.dom a o e) λn c=>t.dom a n c⟩
 ·cases q:h.get? a with|none=>rfl|some o=>exact ck (s.dom a o q) λu c=>gF (m a b) c
 ·rw[p]at r;exact(b7.mp r).elim g λr=>gF (d a r) e
theorem fN.mono (s:fN ex J h U R) (b:∀a∈ex,a∈ex'):fN ex' J h U R:=⟨s.pre,λa o c d e=>s.ext a o c (λq=>d (b a q)) e,s.fixed,s.dom⟩
theorem fN.of_keeps (b:∀a o,h.get? a=aa o->R.get? a=aa o):fN ex J h J R:=⟨aY ([]) ((aJ _).symm) (λc h=>nomatch h),λa o c c e=>b a o e,λa o c e=>b a o e,λa o e=>⟨o,b a o e⟩⟩
theorem VR.step (s:fN ex J h U R) {v:AV} {u:aE} (r:VR c J h v u):VR c U R v u:=r.map s.get s.fixed
theorem fq.step (s:fN ex J h U R) {v:ae AV} {u:ae aE} (r:fq c J h v u):fq c U R v u:=r.map s.get s.fixed
theorem fN.new_not (s:fN ex J h U R) {o:fK} (e:h.get? a=aa o) (b:a∉J):a∉U:=λq=>by refine ba s.pre λd p c=>?_;rw[p]at q;exact(b7.mp q).elim b λq=>gF (c a q) e
def loose (h:dj) (I:bh):Prop:=∀o,h.get? I=aa o->¬gK o
theorem EK (e:h.get? a=aa o) (n:¬gK o):loose h a:=λc b=>aw (e.symm.trans b)▸n
theorem kP (l:loose h a) (c:oU a h R) (b:bh) (o:fK) (f:gK o) (e:h.get? b=aa o):R.get? b=aa o:=c b o (λq=>l o (q▸e) f) e
noncomputable def Ud:Data->bD
 |.seq ..=>aD
 |.fields _=>aD
 |.func _=>aD
 |_=>ai
theorem mB (e:Ud o.data=ai):¬gK o:=λf=>by cases f<;>exact nomatch (show aD=ai from e)
theorem oh {T:aC} (e:o.cls=.type T) (n:T≠"tuple"/\T≠"range"/\T≠"function"):¬gK o:=λf=>by cases f with|tup=>exact n.1 (vX e).symm|rng=>exact n.2.1 (vX e).symm|fn=>exact n.2.2 (vX e).symm
theorem OR.there {o:AO} (x:OR c J h a o):∃ob,h.get? a=aa ob/\¬gK ob:=by induction o using b8 with|l f=>exact d9 x λb b e b=>aY _ e (oh rfl #[0])|d g=>exact d9 x λb b e b=>aY _ e (mB rfl)|i k d=>exact d9 x λb b e b=>aY _ e (mB rfl)|n j=>exact d9 x λb b e b=>aY _ e (mB rfl)|c v=>exact ba x λb y b=>ba y λob e d=>aY ob e (mB (by rw[d];rfl))
theorem OR.map {o:AO} (k:∀(i:af) (a:bh),J[i]?=aa a->U[i]?=aa a) (f:∀a o,gK o->h.get? a=aa o->R.get? a=aa o) (g:∀ob,h.get? a=aa ob->R.get? a=aa ob) (x:OR c J h a o):OR c U R a o:=by
 induction o using b8 with
 |l t=>exact d9 x λj n e r=>dY j n (g _ e) (r.map k f)
 |d w=>exact eV x λj n e r d=>fD j n (g _ e) (r.map k f) d
 |i q d=>exact eV x λC b e p s=>fD C b (g _ e) p (k _ _ s)
 |n y=>exact eV x λj n e r d=>fD j n (g _ e) (r.map k f) d
 |c v=>refine ba x ?_;clear x;intro u m r;refine ba m λob e d=>?_;refine aY u (aY ob (g _ e) d) ?_;induction v using cX with|none=>exact r|some v=>exact ba r λx q r=>aY x q (r.map k f)
theorem SR.at (x:SR c J σ h) {k:af} {o:AO} (e:σ[k]?=aa o):∃a,J[k]?=aa a/\OR c J h a o:=
 have q:=aR (x.len▸(aP.mp e).1)
 (aY _ q (x.obj _ _ _ q e))
theorem SR.mem (x:SR c J σ h) (b:a∈J):∃ob,h.get? a=aa ob/\¬gK ob:=
 let⟨k,e⟩:=dK.mp b
 (x.obj _ _ _ e (aR (x.len▸(aP.mp e).1))).there
theorem SR.not_mem (x:SR c J σ h) (e:h.get? a=ah):a∉J:=λb=>ba (x.mem b) λd q d=>gF e q
theorem SR.size (x:SR c J σ h):h.objs.size∉J:=x.not_mem (eL (bf _))
theorem SR.fresh_new (x:SR c J σ h) (e:h.get? a=ah):c.h₀.get? a=ah:=by cases q:c.h₀.get? a with|none=>rfl|some o=>exact gF e (x.base a o q)
theorem SR.keep (x:SR c J σ h) (f:∀a o,gK o->h.get? a=aa o->R.get? a=aa o) (k:∀a o,a∈J\/c.h₀.get? a=aa o->h.get? a=aa o->R.get? a=aa o):SR c J σ R:=
 ⟨x.len,x.nodup,λi a o b d=>(x.obj i a o b d).map (λg g e=>e) f λob e=>k _ _ (.inl (bG b)) e,λa o e=>k a o (.inr e) (x.base a o e),x.fresh⟩
theorem SR.grow (x:SR c J σ h) (k:∀a o,h.get? a=aa o->R.get? a=aa o):SR c J σ R:=x.keep (λa o b=>k a o) λa o b=>k a o
theorem SR.other {I:bh} (x:SR c J σ h) (b:oU I h R) (d:I∉J) (f:loose h I) (g:c.h₀.get? I=ah):SR c J σ R:=
 x.keep (kP f b) λa o q=>b a o λe=>q.elim (λq=>d (e▸q)) λq=>gF g (e▸q)
theorem kA (o:fK) (a:bh) (b:fK) (e:h.get? a=aa b):(h.push o).get? a=aa b:=bN _ e
theorem fN.fresh (k:∀a o,h.get? a=aa o->R.get? a=aa o) (d:h.get? D=ah):fN ex J h (J++[D]) R:=
 ⟨aY ([D]) rfl (λa f=>aL.mp f▸d),λa b c c e=>k a b e,λa b c e=>k a b e,λa b e=>⟨b,k a b e⟩⟩
theorem SR.freshen {o:AO} (x:SR c J σ h) (i:∀a o,h.get? a=aa o->R.get? a=aa o) (j:h.get? D=ah) (r:OR c (J++[D]) R D o):SR c (J++[D]) (σ++[o]) R:=by
 have st:fN [] J h (J++[D]) R:=.fresh i j;refine⟨by rw[ar,ar,x.len];rfl,l4.mpr (dy x.nodup (eW.mpr ⟨(λh=>nomatch h),.nil⟩) (λa g b l e=>x.not_mem j (aL.mp l▸e▸g))),λk a m d f=>?_,λa o e=>i _ _ (x.base a o e),
  λa g=>(b7.mp g).elim (x.fresh a) λg=>x.fresh_new (aL.mp g▸j)⟩
 rcases gN k J.length with q|q
 ·rw[bM q]at d;rw[bM (x.len▸q)]at f;exact(x.obj k a m d f).map st.get st.fixed λn e=>i _ _ e
 ·rw[be q]at d;rw[be (x.len▸q),<-x.len]at f
  match k-J.length,d,f with|0,d,f=>exact aw d▸aw f▸r|_+1,d,_=>exact bO d
theorem fN.alloc (o:fK):fN ex J h (J++[h.objs.size]) (h.push o):=.fresh (kA o) (eL (bf _))
theorem SR.alloc (x:SR c J σ h) (ob:fK) (o:AO) (r:OR c (J++[h.objs.size]) (h.push ob) h.objs.size o):SR c (J++[h.objs.size]) (σ++[o]) (h.push ob):=x.freshen (kA ob) (eL (bf _)) r
theorem fN.turn (x:SR c J σ h) {k:af} (i:J[k]?=aa a) (f:gQ a h R) (j:∃ob,R.get? a=aa ob):fN ex J h J R:=by
 have g:=bG i;refine ba (x.mem g) λob e l=>?_;refine⟨aY ([]) ((aJ _).symm) (λm h=>nomatch h),λb o n m e=>(f.2 b λq=>n (q▸g)).trans e,λb o p d=>(f.2 b λq=>?_).trans d,λb o d=>?_⟩
 ·rw[q,e]at d;exact l (aw d▸p)
 ·by_cases q:b=a
  ·rw[q];exact j
  ·exact⟨o,(f.2 b q).trans d⟩
theorem SR.turn (x:SR c J σ h) {k:af} {o:AO} (d:J[k]?=aa a) (i:gQ a h R) (l:∃ob,R.get? a=aa ob) (r:OR c J R a o):SR c J (σ.set k o) R:=by
 have m:=bG d;have st:fN [] J h J R:=.turn x d i l;refine⟨by rw[uP,x.len],x.nodup,λj b n f g=>?_,λb o e=>(i.2 b λq=>gF (x.fresh a m) (q▸e)).trans (x.base b o e),x.fresh⟩;by_cases q:j=k
 ·rw[q,d]at f;rw[q,vg (x.len▸(aP.mp d).1)]at g;exact aw f▸aw g▸r
 ·rw[qh (fR q)]at g;exact(x.obj j b n f g).map st.get st.fixed λob e=>(i.2 b λp=>q ((y3 (aP.mp f).1 x.nodup).mp (f.trans (p▸d.symm)))).trans e
end
section
variable {c:Cfg} {J:ae bh} {z C R:Zs}
theorem Good.refl (x:fz c z):Good c J z z:=⟨fN.refl ..,x,rfl,rfl,rfl⟩
theorem Good.transX {ex':ae bh} (a:Good c J z C) (b:Good c ex' C R) (d:∀x∈ex',x∈J\/z.s.heap.get? x=ah):Good c J z R:=⟨a.step.transX b.step d,b.sr,b.gens.trans a.gens,b.drawn.trans a.drawn,b.os.trans a.os⟩
theorem Good.trans (a:Good c J z C) (b:Good c J C R):Good c J z R:=a.transX b λd=>.inl
theorem Good.wide (a:Good c [] z C):Good c J z C:=⟨a.step.mono (λb h=>nomatch h),a.sr,a.gens,a.drawn,a.os⟩
variable {U:dj}
theorem Good.keeps (x:fz c z) (k:∀a o,z.s.heap.get? a=aa o->U.get? a=aa o) (t:Tok):Good c J z ⟨z.ρ,z.σ,{z.s with heap:=U,toks:=t}⟩:=⟨.of_keeps k,x.grow k,rfl,rfl,rfl⟩
theorem Good.tok (x:fz c z) (t:Tok):Good c J z ⟨z.ρ,z.σ,{z.s with toks:=t}⟩:=⟨.refl ..,x,rfl,rfl,rfl⟩
theorem Good.push (x:fz c z) (o:fK) (t:Tok):Good c J z ⟨z.ρ,z.σ,{z.s with heap:=z.s.heap.push o,toks:=t}⟩:=.keeps x (kA o) t
theorem Good.alloc (x:fz c z) (ob:fK) (o:AO) (t:Tok) (r:OR c (z.ρ++[z.s.heap.objs.size]) (z.s.heap.push ob) z.s.heap.objs.size o):
  Good c J z ⟨z.ρ++[z.s.heap.objs.size],z.σ++[o],{z.s with heap:=z.s.heap.push ob,toks:=t}⟩:=⟨.alloc ob,x.alloc ob o r,rfl,rfl,rfl⟩
theorem Good.turn (x:fz c z) {k:af} {a:bh} {o:AO} {U:dj} (t:Tok) (b:z.ρ[k]?=aa a) (d:gQ a z.s.heap U) (e:∃ob,U.get? a=aa ob) (r:OR c z.ρ U a o):
  Good c J z ⟨z.ρ,z.σ.set k o,{z.s with heap:=U,toks:=t}⟩:=⟨.turn x b d e,x.turn b d e r,rfl,rfl,rfl⟩
theorem Good.other {I:bh} (g:Good c J z C) (b:oU I C.s.heap U) (d:z.s.heap.get? I=ah) (f:loose C.s.heap I) (k:I∉C.ρ) (l:c.h₀.get? I=ah) (t:Tok):Good c J z ⟨C.ρ,C.σ,{C.s with heap:=U,toks:=t}⟩:=
 ⟨⟨g.step.pre,λa o m n e=>b a o (λq=>gF d (q▸e)) (g.step.ext a o m n e),λa o i e=>kP f b a o i (g.step.fixed a o i e),λa o e=>let⟨j,p⟩:=g.step.dom a o e;⟨j,b a j (λq=>gF d (q▸e)) p⟩⟩,
  g.sr.other b k f l,g.gens,g.drawn,g.os⟩
end
end
section
open PySem PySem.W PyProof.Rows PySem.SeqAt
theorem uB (a:AV):dO a a=ai:=
 AV.rec rfl (λb=>fk b) (λc=>aI rfl) (λc=>aI rfl) (λc h=>h) (λc=>aI rfl)
  (λc c=>br.mpr ⟨aI rfl,aI rfl⟩) (λc c=>br.mpr ⟨aI rfl,aI rfl⟩) (λc=>aI rfl) (λc=>aI rfl) (λc=>aI rfl) (λc=>aI rfl)
  rfl (λc c d e=>br.mpr ⟨d,e⟩) a
theorem ff {P:Prop} (h:aD=ai):P:=nomatch h
variable {a b:AV}
theorem sO (h:dO a b=ai):a=b:=by
 revert h b;show∀b,dO a b=ai->a=b;refine AV.rec (motive_2:=λas=>∀d,iW as d=ai->as=d) ?_ ?_ ?_ ?_ ?_ ?_ ?_ ?_ ?_ ?_ ?_ ?_ ?_ ?_ a
 ·intro b h;cases b<;>first|rfl|exact ff h
 ·intro x b h;cases b<;>first|exact ff h|exact aU AV.b (eq_of_beq h)
 ·intro x b h;cases b<;>first|exact ff h|exact aU AV.i (bC h)
 ·intro x b h;cases b<;>first|exact ff h|exact aU AV.s (bC h)
 ·intro x e b h;cases b<;>first|exact ff h|exact aU AV.t (e _ h)
 ·intro x b h;cases b<;>first|exact ff h|exact aU AV.l (bC h)
 ·intro x y b h;cases b<;>first|exact ff h|exact congr (aU AV.r (bC (br.mp h).1)) (bC (br.mp h).2)
 ·intro x y b h;cases b<;>first|exact ff h|exact congr (aU AV.o (bC (br.mp h).1)) (bC (br.mp h).2)
 ·intro x b h;cases b<;>first|exact ff h|exact aU AV.f (bC h)
 ·intro x b h;cases b<;>first|exact ff h|exact aU AV.c (bC h)
 ·intro x b h;cases b<;>first|exact ff h|exact aU AV.u (bC h)
 ·intro x b h;cases b<;>first|exact ff h|exact aU AV.y (bC h)
 ·intro b h;cases b<;>first|rfl|exact ff h
 ·intro x k g j b h;cases b<;>first|exact ff h|exact congr (aU yg (g _ (br.mp h).1)) (j _ (br.mp h).2)
theorem Gz {as a:ae AV} (h:iW as a=ai):as=a:=AV.t.inj (sO h)
theorem zF:dO a b=ai↔a=b:=⟨sO,λh=>h▸uB a⟩
noncomputable def Ue:oR AV:=λa a=>decidable_of_iff _ zF
section
variable {c:Cfg} {J I:ae bh} {h:dj} {n:af}
@[elab_as_elim] theorem vA {C:af->AV->Prop} (b:∀n i,C n (.i i)) (c:∀n x,C n (.s x)) (d:∀n a,a.all (gd n)=ai->(∀v,gd n v=ai->C n v)->C (n+1) (.t a)):∀(n:af) (v:AV),gd n v=ai->C n v:=by
 intro n;induction n with
 |zero=>intro v p;induction v using aN with|i i=>exact b _ i|s x=>exact c _ x|_=>exact ff p
 |succ n e=>intro v p;induction v using aN with|i i=>exact b _ i|s x=>exact c _ x|t a=>exact d n a p e|_=>exact ff p
theorem wz {α:Type} {p:α->bD} {a:α} {l:ae α} (h:(a::l).all p=ai):p a=ai/\l.all p=ai:=br.mp h
variable {v:AV} {u:aE}
theorem VR.unmark (p:gd n v=ai) (r:VR c J h v u):VR c I h v u:=by revert r u;show∀u,VR c J h v u->VR c I h v u;refine vA (λj i u r=>r.int_e λt=>.int i t) (λj x u r=>r.str_e λt=>.str x t) (λn g p l u r=>r.tup_e λa k d e q=>.tup e ?_) n v p;clear e r;revert d;induction g with|nil=>exactλd q=>q.nil_e .nil|cons v g f=>exactλd q=>q.cons_e λu d a b=>.cons (l v (wz p).1 u a) (f (wz p).2 d b)
noncomputable def dec (h:dj):af->aE->au AV
 |0=>λu=>match u with|.int i _=>aa (.i i)|.str x _=>aa (.s x.cps.toList)|_=>ah
 |n+1=>λu=>match u with
  |.int i _=>aa (.i i)
  |.str x _=>aa (.s x.cps.toList)
  |.ref a=>(h.get? a).bind λo=>match o.data with|.seq us _=>(fJ (dec h n) us.toList).map .t|_=>ah
  |_=>ah
theorem JY (p:gd n v=ai) (r:VR c J h v u):dec h n u=aa v:=by
 revert r u;show∀u,VR c J h v u->dec h n u=aa v;refine vA (λn i u r=>r.int_e λt=>by cases n<;>rfl) (λn x u r=>r.str_e λt=>by cases n<;>rfl) (λn f p j u r=>r.tup_e λa k d e q=>?_) n v p;have key:∀d,fq c J h f d->fJ (dec h n) d=aa f:=by clear e r q;induction f with|nil=>exactλd q=>q.nil_e rfl|cons v f g=>refineλd q=>q.cons_e λu d a b=>?_;show(dec h n u).bind _=_;rw[j v (wz p).1 u a,g (wz p).2 d b];rfl
 show(h.get? a).bind _=_;rw[e];exact aU (qi AV.t) (key d q)
theorem C0 {a:AV} (p:gd n v=ai) (b:gd n a=ai) (r:VR c J h v u) (d:VR c I h a u):v=a:=aw ((JY p r).symm.trans (JY b d))
end
end
section
set_option genInjectivity true
open PySem PySem.W PyProof.Rows PySem.SeqAt
theorem vB (a b:ae af):(eO a==eO b)=decide (a=b):=ki.mpr ⟨λh=>aI (Hh (eq_of_beq h)),λh=>eh.mpr (aU eO (bC h))⟩
noncomputable def wA (b c:ae AV) (j:af):bD:=(b[j]?).any λa=>(c[j]?).any (dO a)
theorem C3 {xs:ae AV}:∀a:ae AV,((mH (min xs.length a.length)).all (wA xs a)&&xs.length==a.length)=iW xs a:=by
 induction xs with
 |nil=>intro a;cases a<;>rfl
 |cons x xs b=>intro a;induction a using aV with|nil=>rfl|cons y a=>have e:(λj=>wA (x::xs) (y::a) (j+1))=wA xs a:=rfl;rw[aQ,aQ,Nat.add_min_add_right,List.range_succ_eq_map,jz,qj,show iW (x::xs) (y::a)=(dO x y&&iW xs a)from rfl,<-b a,<-CO];exact aU ((dO x y&&(mH (min xs.length a.length)).all (wA xs a))&&·) (ki.mpr (by rw[eh,eh];exact Nat.succ_inj))
mutual
noncomputable def tq:AV->af
 |.t vs=>qM vs+1
 |_=>1
noncomputable def qM:ae AV->af
 |[]=>0
 |v::vs=>tq v+qM vs
end
section
variable {c:Cfg} {I:ae bh} {h:dj} {n:af} {A:cQ} {s:aM} {E:aE->aM->Prop}
variable {J ws:ae aE} {u:aE} {a:bh} {v:AV} {k:af} {R U:ae AV}
theorem Cf {C:AV->Prop} (p:gd n v=ai) (b:∀i,C (.i i)) (c:∀x,C (.s x)) (d:∀k a,n=k+1->a.all (gd k)=ai->C (.t a)):C v:=by
 cases n<;>(induction v using aN with
  |i i=>exact b i
  |s x=>exact c x
  |t a=>first|exact d _ a rfl p|exact ff p
  |_=>exact ff p)
theorem fq.getU {a:ae AV} {j:af} (r:fq c I h a J) (e:J[j]?=aa u):∃v,a[j]?=aa v/\VR c I h v u:=
 have q:=aR (r.length▸(aP.mp e).1)
 let⟨_,b,d⟩:=r.get q
 (aY _ q (aw (e.symm.trans b)▸d))
theorem OU (a:fq c I s.heap R J) (b:fq c I s.heap U ws) (k:∀x∈R,∀y∈U,∀u v,VR c I s.heap x u->VR c I s.heap y v->EqAt A s u v (dO x y)) (j:af) (e:j<J.toArray.size) (f:j<ws.toArray.size):
  EqAt A s J.toArray[j] ws.toArray[j] (wA R U j):=by
 refine ba (a.getU (aR e)) λx ex a=>?_;refine ba (b.getU (aR f)) λy d b=>?_;rw[show wA R U j=dO x y by unfold wA;rw[ex,d];rfl];exact k x (bG ex) y (bG d) _ _ a b
theorem lF (e:s.heap.get? a=aa (r5 J k)):s.heap.IsTuple a J.toArray:=As _ e rfl k rfl
theorem iQ (e:s.heap.get? a=aa (mz J k)):s.heap.IsList a J.toArray:=As _ e rfl k rfl
theorem JZ {b:bh} {l:af} (f:s.heap.get? a=aa (r5 J k)) (g:s.heap.get? b=aa (r5 ws l)) (d:fq c I s.heap R J) (e:fq c I s.heap U ws) (h:A.units<cLine)
  (q:∀x∈R,∀y∈U,∀u v,VR c I s.heap x u->VR c I s.heap y v->EqAt A.in1 s u v (dO x y)):RcAt A s (.ref a) (.ref b) (iW R U):=by
 have:=RcAt.tuples (lF f) (lF g) h (OU d e q);rw[cb,cb,<-d.length,<-e.length,C3]at this;exact this
theorem OW {x y:AV} {v:aE} (p:gd n x=ai) (h:gd n y=ai) (g:A.units+n<cLine) (d:VR c I s.heap x u) (f:VR c I s.heap y v):EqAt A s u v (dO x y):=by
 revert h g d f;refine vA (C:=λn x=>∀{A:cQ} {y:AV} {u v:aE},gd n y=ai->A.units+n<cLine->VR c I s.heap x u->VR c I s.heap y v->EqAt A s u v (dO x y)) ?_ ?_ ?_ n x p
 ·exactλn i A y u v h g d f=>d.int_e λt=>by revert f;exact Cf (C:=λy=>VR c I s.heap y v->EqAt A s (.int i t) v (dO (.i i) y)) h (λj r=>r.int_e λo=>.int_int _ _ _ _) (λy r=>r.str_e λo=>.int_str _ _ _ _) λk H e B r=>r.tup_e λa m J D B=>.int_tuple _ _ (lF D) (de (eG ..) g)
 ·exactλn x A y u v h g d f=>d.str_e λt=>by revert f;exact Cf (C:=λy=>VR c I s.heap y v->EqAt A s (.str (eO x) t) v (dO (.s x) y)) h (λj r=>r.int_e λo=>.str_int _ _ _ _) (λy r=>r.str_e λo=>(show(eO x==eO y)=dO (.s x) (.s y)from vB x y)▸EqAt.str_str (eO x) t (eO y) o) λk H e B r=>r.tup_e λa m J D B=>.str_tuple _ _ (lF D) (de (eG ..) g)
 ·refineλn R p K A y u v h g d f=>d.tup_e λa m J z E=>?_;have l:=de (eG ..) g;revert f;refine Cf (C:=λy=>VR c I s.heap y v->EqAt A s (.ref a) v (dO (.t R) y)) h (λj r=>r.int_e λo=>.tuple_int _ _ (lF z) l) (λy r=>r.str_e λo=>.tuple_str _ _ (lF z) l) λk U L py r=>r.tup_e λb O ws F G=>?_;obtain rfl:=f_ L;by_cases w:a=b
  ·obtain rfl:=w;have q:AV.t R=.t U:=C0 (n:=n+1) p py (.tup z E) (.tup F G);rw[q,uB];exact .same _
  ·exact .of_refs w (JZ z F E G l λx M y N u v d f=>K x (cy.mp p x M) (cy.mp py y N) (by show A.units+1+n<cLine;rw[iJ,jm 1];exact g) d f)
theorem Cg (w:fb) (as b:ae AV):og w (as++b)=og w as++og w b:=by induction as with|nil=>rfl|cons a as c=>exact aU (jC w a::·) c
theorem Iu (as:ae AV) (b:AV):qM (as++[b])=qM as+tq b:=by induction as with|nil=>exact jm ..|cons a as c=>exact(aU (tq a+·) c).trans (iJ ..).symm
theorem nC {n:af} (e:s.heap.get? a=aa (r5 J n)):s.TypeIs (.ref a) "tuple":=aY _ e rfl
set_option tactic.hygienic true in
theorem AK (p:gd n v=ai):∀{A:cQ} {E:aE->aM->Prop} {s:aM} {Q:aq->aM->Prop},A.units+n<cLine->VR c I s.heap v u->Q (jC c.w v) {s with toks:=s.toks+tq v}->bp c.M A (pyHash u) Q E s:=by
 revert u;refine vA (C:=λn v=>∀{u:aE} {A:cQ} {E:aE->aM->Prop} {s:aM} {Q:aq->aM->Prop},A.units+n<cLine->VR c I s.heap v u->Q (jC c.w v) {s with toks:=s.toks+tq v}->bp c.M A (pyHash u) Q E s)
  (λn i u A E s Q H r h=>r.int_e λt=>wpAny_pyHash_int h) (λn x u A E s Q H r h=>r.str_e λt=>wpAny_pyHash_str h) (λn f p K u A E s Q G r h=>r.tup_e λa k J e q=>?_) n v p
 have l:=nC e;refine aA (wpAny_cRoomFor_or (.inr (de (eG ..) G)) (aA (nv l oK.lookup ?_)));rw[aG (by rw[beq_builtin_none];exact eT)];refine aA (nv l oK.lookup ?_);refine aA (wpAny_callSpecialIfBoundUnlessNone?_slot l oK (iO oK l F.entry_tuple_hash ?_ (F.args_tuple_hash_1 _)));show bp _ _ (se (.ref a)>>=_) _ _ s;refine aA (yh e rfl (aA ?_));rw[<-yi];refine wpAny_forIn_list _ (λrest (b:bZ aq) o=>∃done left,f=done++left/\fq c I s.heap left rest/\b.toList=og c.w done/\o={s with toks:=s.toks+qM done}) _ ?_ ?_ _ _ (qH ([]) f rfl q rfl rfl)
 ·intro x rest b o y;refine tj y λdone left g m z B=>?_;refine dq B ?_;induction left using aV with
  |nil=>exact nomatch m.length
  |cons v left=>
   refine dp (by cases m with|cons a b=>exact⟨a,b⟩:VR c I s.heap v x/\fq c I s.heap left rest) λL N=>?_;refine aA (K v (cy.mp p v (g▸eA _ aH)) (by show A.units+1+n<cLine;rw[iJ,jm 1];exact G) L
    (aW (qH (done++[v]) left (g.trans (List.append_cons ..)) N ?_ ?_)))
   ·rw[fY,z,Cg];rfl
   ·rw[Iu,<-iJ]
 ·intro b o y;refine tj y λdone left g m z B=>?_;refine dq B ?_;induction left using aV with
  |cons _ _=>exact nomatch m.length
  |nil=>
   rw[aJ]at g;subst g;show bp _ _ (retInt (jb b.toList)) _ _ _;rw[z];refine wpAny_ret_mkInt ?_;show bp _ _ (if(decide (-2^63<=jb (og c.w f))&&decide (jb (og c.w f)<2^63))=ai then _ else _) Q E _;have j:Q (BU (jb (og c.w f))) {s with toks:=s.toks+(qM f+1)}:=h;unfold BU at j;split
   ·rename_i D
    rw[aF D]at j;exact aW j
   ·rename_i D
    rw[aG D]at j;exact aA (iH (aW j))
theorem GA (p:gd n v=ai) (k:af) (b:n<=k) {Q:bD->aM->Prop} (r:VR c I s.heap v u) (h:Q ai s):bp c.M A (eqIsQuiet k u) Q E s:=by
 revert r b h;refine vA (C:=λn v=>∀{k u Q},n<=k->VR c I s.heap v u->Q ai s->bp c.M A (eqIsQuiet k u) Q E s) (λn i k u Q B r h=>r.int_e λt=>?_) (λn x k u Q B r h=>r.str_e λt=>?_) (λn O p o k u Q b r h=>r.tup_e λa m J e q=>?_) n v p
 ·rw[eqIsQuiet_byValue _ rfl];exact aW h
 ·rw[eqIsQuiet_byValue _ rfl];exact aW h
 ·match k,b with
  |k+1,b=>
   have d:=nC e;unfold eqIsQuiet;refine aA (nv d F.slot_tuple_eq.lookup ?_);refine aA (wpAny_isInstance d isSubtype_tuple_tuple ?_);rw[show(!ai)=aD from rfl,aG eT];refine aA (wpAny_seqItems e rfl (aA ?_));rw[<-yi];refine wpAny_forIn_list _ (λrest q f=>q.1=ah/\f=s/\∀u∈rest,∃v,gd n v=ai/\VR c I s.heap v u) _ ?_ ?_ _ _ (dy rfl rfl (λu D=>?_))
   ·intro x rest q f G;refine iK G λw g y=>?_;refine dq g ?_;refine ba (y x aH) λv H l=>?_;refine aA (o v H (vh b) l ?_);exact aW (dy rfl rfl (λz m=>y z (aK _ m)))
   ·intro ⟨K,P⟩ f ⟨w,g,_⟩;clear e d o q r;refine dq g ?_;obtain rfl:K=ah:=w;exact aW h
   ·refine ck (dK.mp D) λj L=>?_;refine ba (q.getU L) λv N l=>?_;exact aY v (cy.mp p v (bG N)) l
end
end
section
open PySem PySem.W PyProof.Rows PySem.SeqAt
abbrev pW:aE->aM->Prop:=λa a=>False
abbrev nj (a b:Type):=Zs->a->b->Prop
def ez (c:Cfg) {α f:Type} (V:nj α f) (z:Zs) (a:α) (d:St) (b:f) (g:aM):Prop:=∃e,Good c [] z ⟨e,d,g⟩/\V ⟨e,d,g⟩ a b
def Lf (c:Cfg) (A:cQ) {α d:Type} (V:nj α d) (r:R α) (m:eR d) (z:Zs):Prop:=match r with|.k a σ'=>bp c.M A m (ez c V z a σ') pW z.s|.x _ _=>False|.b=>True
section
variable {c:Cfg} {A:cQ} {C β:Type} {V:nj C β} {z:Zs} {m:eR β} {a:C} {b:β}
theorem ez.val (x:fz c z) (t:Tok) (r:V ⟨z.ρ,z.σ,{z.s with toks:=t}⟩ a b):ez c V z a z.σ b {z.s with toks:=t}:=aY z.ρ (.tok x t) r
theorem ez.here (x:fz c z) (r:V z a b):ez c V z a z.σ b z.s:=aY z.ρ (.refl x) r
theorem Lf.oo {o:au C} (k:∀a,o=aa a->bp c.M A m (ez c V z a z.σ) pW z.s):Lf c A V (opt z.σ o) m z:=by induction o using cX with|none=>trivial|some a=>exact k a rfl
theorem Lf.ite {p:Prop} [uQ p] {r:R C} (k:p->Lf c A V r m z):Lf c A V (if p then r else .b) m z:=by
 by_cases h:p
 ·rw[aF h];exact k h
 ·rw[aG h];trivial
theorem Mp:limit<=sizeLine:=by decide
variable {J:ae C} {U:ae AV} {I:ae aE}
theorem zG (h:bV J=ai):J.length<=limit:=bC h
theorem jh (h:bV J=ai):J.length<=sizeLine:=dI (zG h) Mp
theorem tu (x:fz c z) (t:Tok) (r:lX c z U I):ez c (Vz c) z (.t U) z.σ (.ref z.s.heap.objs.size) {z.s with heap:=z.s.heap.push (r5 I 0),toks:=t}:=
 aY z.ρ (.push x _ t) (.tup (dF _ rfl) (r.map (λa a e=>e) λa a a e=>kA _ _ _ e))
theorem vC (x:fz c z) (a:bh):(z.ρ++[a])[z.σ.length]?=aa a:=by rw[<-x.len,be (bf _),iz];rfl
theorem zH (x:fz c z) (t:Tok) (r:lX c z U I):ez c (Vz c) z (.l z.σ.length) (z.σ++[.l U]) (.ref z.s.heap.objs.size) {z.s with heap:=z.s.heap.push (mz I 0),toks:=t}:=
 aY _ (.alloc x _ _ t (dY I 0 (dF _ rfl) (r.step (ex:=[]) (.alloc _)))) (.loc (vC x _))
end
section
variable {c:Cfg} {J:ae bh} {h:dj} {A:cQ} {E:aE->aM->Prop} {s:aM}
variable {k:AV} {C:ae (AV×AV)} {I:ae ew} {u:aE} {H:AV->aq} {d:bh} {n:af}
theorem mO.length (r:mO c J h H C I):C.length=I.length:=by induction r with|nil=>rfl|cons _ _ _ _ a=>exact aU (·+1) a
theorem keyed {K:Type} [oR K] {knd:KeyKind c.prog c.w K} {T:Type} {f:T->AV} {g:T->K} (i:∀a b u,VR c J h (f a) u->knd.is (g b) u=dO (f a) (f b)) (n:∀a,jC c.w (f a)=knd.hash (g a)) {C:ae (AV×AV)} {I:ae ew}
  (r:mO c J h (jC c.w) C I) (j:∀e∈C,∃a,e.1=f a) (b:T):I.findIdx? (λe=>knd.is (g b) e.key)=C.findIdx? (λe=>dO e.1 (f b))/\∀e∈I,∃k,knd.is k e.key=ai/\e.hash=knd.hash k:=by
 induction r with|nil=>exact⟨rfl,λx m=>nomatch m⟩|@cons k v e C I l y he r o=>refine dp (o λe m=>j e (aK _ m)) λp s=>?_;refine ck (j (k,v) aH:∃a,k=f a) λa d=>?_;obtain rfl:=d;refine⟨by rw[j6,j6,p,i a b _ l],λt m=>(bw.mp m).elim (λq=>?_) (s t)⟩;rw[q];exact aY (g a) ((i a a _ l).trans (uB _)) (he.trans (n a))
noncomputable def Ch [oR AV] (c:Cfg):HeapKind c.prog c.w AV where
 is:=λh k a=>gd 2 k=ai/\VR c [] h k (.ref a)
 hash:=jC c.w
 draws:=tq
 room:=λA=>A.units+2<cLine
 inj:=λh i=>C0 h.1 i.1 h.2 i.2
 keeps:=by intro h i k a d o C u ⟨p,r⟩ l hd m;refine⟨p,r.map (λn n e=>e) λb v f e=>(m.2 b λq=>?_).trans e⟩;rw[q,l]at e;exact mB (o:=o) (by rw[hd];rfl) (aw e▸f)
 pyHash:=λj h g=>AK h.1 j h.2 g
 eqBool:=by
  intro A E s x y a b Q j ⟨p,r⟩ ⟨q,t⟩ g;refine OW p q j r t _ _ E Q ?_
  rwa [show dO x y=decide (x=y)from ki.mpr (zF.trans nR.symm)]
 quiet:=λh g=>GA h.1 8 #[0] h.2 g
theorem Ss (h:kk k=aa .i):∃i,k=.i i:=by induction k using aN with|i i=>exact⟨i,rfl⟩|t a=>exact bJ h (by show¬(if tH a=ai then aa KK.t else ah)=aa .i;split<;>decide)|_=>exact nomatch h
theorem Su (h:kk k=aa .s):∃i,k=.s i:=by induction k using aN with|s i=>exact⟨i,rfl⟩|t a=>exact bJ h (by show¬(if tH a=ai then aa KK.t else ah)=aa .s;split<;>decide)|_=>exact nomatch h
theorem Sv (h:kk k=aa .t):∃a,k=.t a/\gd 2 k=ai:=by induction k using aN with|t a=>exact g_ h λp b=>aY a rfl p|_=>exact nomatch h
theorem Mq (h:(kk k).isSome=ai):gd 2 k=ai:=by induction k using aN with|t a=>exact g_ (Option.get_mem h) λp b=>p|i _=>rfl|s _=>rfl|_=>exact nomatch h
theorem Mr [oR AV] {C:ae (AV×AV)} {I:ae ew} (r:mO c J h (jC c.w) C I) (f:∀e∈C,kk e.1=aa .t):
  ∃b:ae (AV×bh×aE),I=b.map (entryOfKey (Ch c))/\b.map (·.1)=C.map (·.1)/\∀x∈b,(Ch c).is h x.1 x.2.1:=by
 induction r with
 |nil=>exact dS ([]) rfl rfl (λi h=>nomatch h)
 |@cons k v e C I j A he r l=>
  refine cV (l λe m=>f e (aK _ m)) λb o s u=>?_;refine ba (Sv (f (k,v) aH)) λy z p=>?_;have d:VR c [] h k e.key:=j.unmark p;refine kN (z▸d.inv:UY c [] h e.key (.t y)) λa n B g i=>?_;refine dS ((k,a,e.val)::b) (congr (aU yg ?_) o) (aU (k::·) s) (λx m=>(bw.mp m).elim (λq=>?_) (u x))
  ·show e=⟨jC c.w k,.ref a,e.val⟩;rw[<-he,<-g]
  ·rw[q];exact⟨p,g▸d⟩
theorem J1 (h:∀(j:af) e,C[j]?=aa e->e.1≠k):C.findIdx? (λe=>dO e.1 k)=ah:=
 sZ.mpr λe m=>let⟨j,a⟩:=dK.mp m;kz.mpr λq=>h j e a (sO q)
theorem J2 (a:(C.map (·.1)).Nodup):∀{j:af} {e:AV×AV},C[j]?=aa e->e.1=k->C.findIdx? (λe=>dO e.1 k)=aa j:=by
 induction C with
 |nil=>exactλh=>bO h
 |cons x r d=>intro j e b c;rw[fj,eW]at a;rw[j6];induction j using gC with|zero=>rw[<-c,<-aw b,uB];rfl|succ j=>have f:dO x.1 k=aD:=kz.mpr λq=>a.1 (sO q▸bT.mpr (aY e (bG b) c));rw[f,d a.2 b c];rfl
theorem Hi {Q:au af->aM->Prop}
  (P:A.units+2<cLine) (hd:s.heap.get? d=aa (mA I n)) (F:mO c J s.heap (jC c.w) C I) (N:(C.map (·.1)).Nodup) (z:d_ C k=ai) (B:VR c J s.heap k u)
  (v:Q (C.findIdx? λe=>dO e.1 k) s):bp c.M A (dictFind d u (jC c.w k)) Q E s:=by
 refine dp (br.mp z) λy h=>?_;refine ck (nS.mp y) λq D=>?_;have l:=λe m=>(bC (cy.mp h e m)).trans D;cases q with
 |i=>refine ck (Ss D) λi f=>?_;clear y h z;obtain rfl:=f;refine dp (keyed (knd:=vY c.prog c.w) (λa b u r=>r.int_e λt=>rfl) (λR=>rfl) F (λe m=>Ss (l e m)) i) λf1 f2=>?_;exact B.int_e λt=>wpAny_dictFind_of (knd:=vY c.prog c.w) (fk i) hd rfl (λe m=>f2 e (sf.mp m)) (by rw[vZ];exact f1▸v)
 |s=>refine ck (Su D) λi f=>?_;clear y h z;obtain rfl:=f;refine dp (keyed (knd:=strKind c.prog c.w) (λa b u r=>r.str_e λt=>vB a b) (λR=>rfl) F (λe m=>Su (l e m)) i) λf1 f2=>?_;exact B.str_e λt=>wpAny_dictFind_of (fk (eO i)) hd rfl (λe m=>f2 e (sf.mp m)) (by rw[vZ];exact f1▸v)
 |t=>
  refine ba (Sv D) λO f p=>?_;clear y h z;obtain rfl:=f;have dec:=Ue;refine cV (Mr F l) λS y h T=>?_;have o:VR c [] s.heap (.t O) u:=B.unmark p;revert o;refine B.tup_e λa m U ge V o=>?_;have g:∀j:af,(S[j]?).map (·.1)=(C[j]?).map (·.1):=λj=>by rw[<-bE,h,bE]
  refine wpAny_dictFind_heap (knd:=Ch c) (k:=.t O) P ⟨p,o⟩ hd rfl y T (h▸N) (λG=>?_) (λj W H=>?_)
  ·rw[J1 λj e H K=>?_]at v
   ·exact v
   ·have:=g j;rw[H]at this;refine ba (bK.mp this) λx ex L=>?_;exact G j x.2 (ex.trans (aU aa (Gi (L.trans K) rfl)))
  ·have:=g j;rw[H]at this;refine ba (bK.mp this.symm) λe ex L=>?_;rw[J2 N ex L]at v;exact v
theorem Hj {Q:aq->aM->Prop} (b:A.units+2<cLine) (d:(kk k).isSome=ai) (e:VR c J s.heap k u) (f:∀tk,Q (jC c.w k) {s with toks:=tk}):bp c.M A (pyHash u) Q E s:=AK (Mq d) b e (f _)
theorem mO.at (r:mO c J h H C I):∀{i:af} {e:AV×AV},C[i]?=aa e->∃d,I[i]?=aa d/\VR c J h e.2 d.val:=by
 induction r with
 |nil=>exactλh=>bO h
 |cons a b q r g=>intro i e f;induction i using gC with|zero=>exact aY _ rfl (aw f▸b)|succ i=>exact(g f:)
theorem J3 (C:ae (AV×AV)) (k:AV):iX C k=(C.findIdx? λe=>dO e.1 k).bind λi=>(C[i]?).map (·.2):=by
 unfold iX;induction C with
 |nil=>rfl
 |cons e C a=>rw[ik,j6];induction dO e.1 k using b_ with|true=>rfl|false=>rw[aG eT];exact a.trans (by cases C.findIdx? λe=>dO e.1 k<;>rfl)
def OV (c:Cfg) (J:ae bh) (h:dj) (o:au AV) (a:au aE):Prop:=match o with|some v=>∃u,a=aa u/\VR c J h v u|none=>a=ah
theorem Ci {Q:au aE->aM->Prop}
  (b:A.units+2<cLine) (hd:s.heap.get? d=aa (mA I n)) (f:mO c J s.heap (jC c.w) C I) (m:(C.map (·.1)).Nodup) (g:d_ C k=ai) (h:VR c J s.heap k u)
  (a:∀o tk,OV c J s.heap (iX C k) o->Q o {s with toks:=tk}):bp c.M A (yU d u) Q E s:=by
 unfold yU
 try with_reducible refine dk ?_
 refine aA (Hj b (br.mp g).1 h λtk=>aA ?_);refine Hi b hd f m g h ?_;rw[J3]at a;cases hi:C.findIdx? λe=>dO e.1 k with|none=>rw[hi]at a;exact aW (a ah _ rfl)|some i=>rw[hi]at a;refine ck (⟨_,aR (List.findIdx?_eq_some_iff_findIdx_eq.mp hi).1⟩:∃e,C[i]?=aa e) λe l=>?_;refine ba (f.at l) λr p q=>?_;rw[show(aa i).bind (λi=>(C[i]?).map (·.2))=aa e.2 from aU (qi _) l]at a;refine aA (wpAny_dictEntries hd rfl (aW ?_));rw[dX,p];exact a _ _ (aY _ rfl q)
end
section
variable {c:Cfg} {A:cQ} {z:Zs} {α β:Type} {V:nj α β} {m:eR β} {U:ae bh} {σ:St} {h:dj} {n:af} {a:bh}
@[elab_as_elim] theorem SR.loc_e {C:au AO->Prop} (X:SR c U σ h) (b:U[n]?=aa a) (k:∀o,OR c U h a o->C (aa o)):C σ[n]?:=by have q:=aR (l:=σ) (i:=n) (X.len▸(aP.mp b).1);rw[q];exact k _ (X.obj _ _ _ b q)
variable {x y u:aE} {b:AV} {s:aM} {p:Prop} {ds:ae ew} {I:ae AV} {J:qb}
theorem Lf.itef [uQ p] {r:R α} (k:¬p->Lf c A V r m z):Lf c A V (if p then .b else r) m z:=by
 by_cases h:p
 ·rw[aF h];trivial
 ·rw[aG h];exact k h
theorem Lf.optIf [uQ p] {a:α} (k:p->bp c.M A m (ez c V z a z.σ) pW z.s):Lf c A V (opt z.σ (if p then aa a else ah)) m z:=by
 by_cases h:p
 ·rw[aF h];exact k h
 ·rw[aG h];trivial
theorem AL {b:bD} (h:(!b)=ai):b=aD:=by induction b using b_ with|false=>rfl|true=>exact nomatch h
theorem nb {b:bD} (h:(!b)=aD):b=ai:=by induction b using b_ with|true=>rfl|false=>exact nomatch h
theorem mn {i:aq} (h:cP i=ai):-(2^30)<i/\i<2^30:=bC h
theorem PL (a y:af):Txt.mul (eO [a]) (y:aq)=eO (rep [a] y):=by
 have e:∀(n:af) (b:bZ af),(CP n (eO [a]).cps).foldl (·++·) b=b++(rep [a] n).toArray:=by intro n;induction n with|zero=>intro b;simp[rep]|succ n c=>intro b;rw[List.replicate_succ,kh,c];simp[rep,eO]
 match y with|0=>rfl|1=>rfl|y+2=>unfold Txt.mul;rw[aG (by omega),aG (by show¬(((y+2):aq)==1||false)=ai;rw[DV,eh];omega),cU,e];simp[eO]
theorem Ms {J:jI} {a:AV} (X:fz c z) (g:Vz c z a x) (d:Vz c z b y):Lf c A (Vz c) (binop J a b z.σ) (binaryOp J x y) z:=by
 induction J using vi with
 |Add=>
  induction a using aN with
  |i i=>induction b using aN with|i j=>exact g.int_e λt=>d.int_e λk=>add_int (ez.val X _ (.int _ _))|_=>trivial
  |s x=>induction b using aN with|s y=>refine Lf.ite λu=>g.str_e λt=>d.str_e λk=>add_str (λk tk=>?_) (ar▸jh u);rw[AJ];exact ez.val X _ (.str _ _)|_=>trivial
  |t I=>
   induction b using aN with
   |t ws=>
    refine Lf.ite λu=>g.tup_e λa n C e r=>d.tup_e λb m D f v=>?_;by_cases G:C=[]
    ·subst G;refine t_ (nC e) (nC f) ua xn oV oE (nT _ _)
      (tuple_addW0 a b ([]:ae aE).toArray D.toArray n m ah ah #[] #[] rfl) (dy e f ?_)
     rw[e_.mp r.length];exact ez.here X (.tup f v)
    ·by_cases K:D=[]
     ·subst K;refine t_ (nC e) (nC f) ua xn oV oE (nT _ _)
       (tuple_addW1 a b C.toArray ([]:ae aE).toArray n m ah ah #[] #[] (by simpa using G) rfl) (dy e f ?_)
      rw[e_.mp v.length,aJ];exact ez.here X (.tup e r)
     ·refine t_ (nC e) (nC f) ua xn oV oE (nT _ _)
       (tuple_addW2 a b C.toArray D.toArray n m ah ah #[] #[] (by simpa using G) (by simpa using K) (by rw[cb,cb,<-r.length,<-v.length,<-ar];exact jh u)) (dy e f ?_)
      rw[xz];exact tu X _ (v.append r)
   |_=>trivial
  |l p=>
   induction b using aN with
   |l q=>
    refine g.loc_e λa M=>d.loc_e λb N=>?_;show Lf c A (Vz c) (OB z.σ z.σ[p]? z.σ[q]?) _ z;refine SR.loc_e X M λo L=>SR.loc_e X N λO ob=>?_;induction o using b8 with
    |l I=>
     induction O using b8 with
     |l ws=>
      refine d9 L ?_;clear L;intro C n e r;refine d9 ob ?_;clear ob;intro D m f v;refine Lf.ite λu=>t_ (aY _ e rfl) (aY _ f rfl) noFill_list_add seq_list_add PySem.F.slot_list_add PySem.F.entry_list_add (PySem.F.args_list_add_2 _ _)
       (list_addW a b C.toArray D.toArray n m ah ah #[] #[] (by rw[cb,cb,<-r.length,<-v.length,<-ar];exact jh u)) (dy e f ?_)
      rw[xz];exact zH X _ (v.append r)
     |_=>trivial
    |_=>trivial
   |_=>trivial
  |_=>trivial
 |Sub=>
  induction a using aN with
  |i i=>induction b using aN with|i j=>exact g.int_e λt=>d.int_e λk=>sub_int (ez.val X _ (.int _ _))|_=>trivial
  |_=>trivial
 |Mult=>
  induction a using aN with
  |i i=>induction b using aN with|i j=>refine Lf.ite λu=>g.int_e λt=>d.int_e λk=>mul_int (ez.val X _ (.int _ _)) ?_;have:=mn (br.mp u).2;exact PySem.IntMulOk.of_right (PySem.intBits_le_64 (by omega) (by omega))|_=>trivial
  |s x=>induction b using aN with|i j=>refine Lf.ite λ⟨E,H,P⟩=>g.str_e λt=>d.int_e λk=>?_;refine ck (lT.mp P) λw B=>?_;refine dq B ?_;refine ck (h_ E) λn B=>?_;clear E d;obtain rfl:=B;refine SB.mul (mulOk_of 1 limit (bf 1) H (by omega) #[0] #[0]) λk tk=>?_;rw[PL];exact ez.val X _ (.str _ _)|_=>trivial
  |_=>trivial
 |Mod=>
  induction a using aN with
  |i i=>induction b using aN with|i j=>exact Lf.itef λh=>g.int_e λt=>d.int_e λk=>mod_int h (ez.val X _ (.int _ _))|_=>trivial
  |_=>trivial
 |FloorDiv=>
  induction a using aN with
  |i i=>induction b using aN with|i j=>refine Lf.itef λh=>g.int_e λt=>d.int_e λk=>?_;refine dp (gY.mp (kz.mpr h)) λE H=>?_;have:=mn (nb H);exact floordiv_int (iT E) (ez.val X _ (.int _ _)) (Or.inl (PyProof.noPylong_small (by omega)))|_=>trivial
  |_=>trivial
 |_=>trivial
abbrev Bv:nj bD aE:=λa b u=>u=.bool b
abbrev Bb:nj bD bD:=λc b a=>a=b
theorem J4 {xs:ae AV} (h:l8 xs=ai):∀x∈xs,gd 0 x=ai:=by
 induction xs with
 |nil=>exactλb m=>nomatch m
 |cons x xs a=>induction x using aN with|s s=>exactλx m=>(bw.mp m).elim (λe=>e▸rfl) (a h x)|_=>exact ff h
theorem Uf {a:AV} (h:A.units<cLine) (X:fz c z) (d:Vz c z a x) (f:Vz c z b y):Lf c A Bv (opt z.σ (R6 a b)) (kI .Eq x y) z:=by
 induction a using aN with
 |i i=>induction b using aN with|i j=>exact d.int_e λt=>f.int_e λk=>eq_int (ez.here X rfl)|_=>trivial
 |s i=>induction b using aN with|s j=>exact d.str_e λt=>f.str_e λk=>eq_str (ez.here X (aU oy (vB i j)))|_=>trivial
 |t I=>
  induction b using aN with
  |t ws=>induction ws using aV with|nil=>refine d.tup_e λa n p e r=>f.tup_e λb m q l o=>?_;refine JZ e l r o h (λg g g m=>nomatch m) _ _ _ _ (ez.here X (aU oy ?_));clear r d;cases I<;>rfl|cons _ _=>trivial
  |_=>trivial
 |_=>trivial
theorem Cj {us:ae aE} (e:s.heap.get? a=aa (mz us n)):s.TypeIs (.ref a) "list":=aY _ e rfl
theorem Sw {a:AV} (D:A.units+7<cLine) (X:fz c z) (f:Vz c z a x) (g:Vz c z b y):Lf c A Bv (opt z.σ (R8 z.σ a b)) (kI .NotEq x y) z:=by
 have d:=de (eG ..) D;induction a using aN with
 |i i=>induction b using aN with|i j=>exact f.int_e λt=>g.int_e λH=>ne_int (ez.here X rfl)|_=>trivial
 |s i=>induction b using aN with|s j=>exact f.str_e λt=>g.str_e λH=>ne_str (ez.here X (aU (λb=>oy !b) (vB i j)))|_=>trivial
 |b i=>induction b using aN with|b j=>exact f.bool_e (g.bool_e (ne_bool (ez.here X rfl)))|_=>trivial
 |n=>
  induction b using aN with
  |n=>exact f.none_e (g.none_e (EqNone.ne_none_none (ez.here X rfl)))
  |l k=>refine f.none_e (g.loc_e λb w=>?_);show Lf c A Bv (opt z.σ (Aw z.σ[k]?)) _ z;refine SR.loc_e X w λo r=>?_;induction o using b8 with|l I=>refine d9 r ?_;clear r;intro E n e _;exact RcNeAt.none_list (iQ e) d _ _ _ _ (ez.here X rfl)|_=>trivial
  |_=>trivial
 |l k=>
  induction b using aN with
  |n=>refine g.none_e (f.loc_e λb w=>?_);show Lf c A Bv (opt z.σ (Aw z.σ[k]?)) _ z;refine SR.loc_e X w λo r=>?_;induction o using b8 with|l I=>refine d9 r ?_;clear r;intro E n e _;exact RcNeAt.list_none (iQ e) d _ _ _ _ (ez.here X rfl)|_=>trivial
  |l l=>
   refine f.loc_e λa J=>g.loc_e λb w=>?_;show Lf c A Bv (opt z.σ (R7 z.σ[k]? z.σ[l]?)) _ z;refine SR.loc_e X J λo r=>SR.loc_e X w λK h=>?_;induction o using b8 with
   |l C=>
    induction K using b8 with
    |l F=>
     refine d9 r ?_;clear r;intro E n e r;refine d9 h ?_;clear h;intro ws m G h;refine Lf.optIf λL=>?_;refine dp (br.mp L) λp M=>?_;have q:=C3 (xs:=C) F;by_cases B:C.length=F.length
     ·refine RcNeAt.lists (iQ e) (iQ G) (by rw[cb,cb,<-r.length,<-h.length,B]) d (OU r h λx mx y N u v O P=>OW (J4 p x mx) (J4 M y N) (by show A.units+1+0<cLine;exact#["BHVj7_vo;AQWC",D]) O P) _ _ _ _ (ez.here X (aU (λb=>oy !b) ?_));rw[cb,<-r.length,<-q,<-B,Gf,fk,sh]
     ·refine RcNeAt.lists_lengths (iQ e) (iQ G) (by rw[cb,cb,<-r.length,<-h.length];exact oz.mpr B) d _ _ _ _ (ez.here X (aU (λb=>oy !b) (?_:aD=_)));rw[<-q,fW.mpr B,CQ]
    |_=>trivial
   |_=>trivial
  |_=>trivial
 |_=>trivial
theorem J5 (b:∃o,c.h₀.get? jo=aa o) (X:SR c U σ h) {k:af} (e:U[k]?=aa a):(a==jo)=aD:=
 fW.mpr λq=>let⟨_,d⟩:=b;gF (X.fresh _ (bG e)) (q▸d)
theorem vD (e:s.heap.get? a=aa (mA ds n)):s.TypeIs (.ref a) "dict":=aY _ e rfl
theorem xg {E:aE->aM->Prop} {Q:bD->aM->Prop} {d:bh} {es:ae (AV×AV)} {k:AV} (g:(d==jo)=aD)
  (h:A.units+7<cLine) (hd:s.heap.get? d=aa (mA ds n)) (i:mO c U s.heap (jC c.w) es ds) (j:(es.map (·.1)).Nodup) (l:d_ es k=ai) (m:VR c U s.heap k u)
  (a:∀tk,Q (iX es k).isSome {s with toks:=tk}):bp c.M A (contains (.ref d) u) Q E s:=by
 have b:=vD hd;unfold contains
 try with_reducible refine dk ?_
 refine aA (nv b rT.lookup ?_);rw[aG (by rw[beq_builtin_none];exact eT)];refine aA (wpAny_callSpecialUnlessNone?_slot b rT (iO rT b entry_dict_contains ?_ (args_dict_contains _ _)));show bp _ _ (yU d u>>=_) _ _ s;refine aA (Ci (by show A.units+1+2<cLine;exact#[79,h]) hd i j l m λo tk r=>?_);cases q:iX es k with|some v=>rw[q]at r a;refine ba r ?_;clear r;intro u e _;refine dq e ?_;exact aW (aY _ rfl (jt (a tk)))|none=>rw[q]at r a;obtain rfl:o=ah:=r;exact aA (wpAny_pendingKey_other g (aW (aY _ rfl (jt (a tk)))))
theorem Mt:∀{us:ae aE},B6 I=ai->fq c U h I us->∃b:ae aq,I=b.map .i/\v5 us b:=by
 induction I with
 |nil=>exactλg r=>r.nil_e (aY ([]) rfl .nil)
 |cons v I f=>
  induction v using aN with
  |i i=>exactλd r=>r.cons_e λu us a r=>a.int_e λt=>by refine ba (f d r) λb e q=>?_;exact aY (i::b) (aU _ e) (.cons i t q)
  |_=>exactλd=>ff d
theorem Mu:∀{us:ae aE},l8 I=ai->fq c U h I us->∃d:ae (ae af),I=d.map .s/\StrsAre us (d.map eO):=by
 induction I with
 |nil=>exactλj r=>r.nil_e (aY ([]) rfl .nil)
 |cons v I f=>
  induction v using aN with
  |s i=>exactλb r=>r.cons_e λu us a r=>a.str_e λt=>by refine ba (f b r) λg e q=>?_;exact aY (i::g) (aU _ e) (.cons (eO i) t q)
  |_=>exactλb=>ff b
theorem PM (a:ae af) (d:af):(!(Builtin.Str.occurrences (eO a) (eO [d]) 0 (eO a).length 1).isEmpty)=a.any λe=>decide (e=d):=by refine(StrLaws.found_one (eO a) d).trans (ki.mpr (Iff.trans nR ?_));simp[eO]
theorem OX {a:AV} (w:∃o,c.h₀.get? jo=aa o) (D:A.units+7<cLine) (X:fz c z) (k:Vz c z a x) (B:Vz c z b y) {r:bD} (f:Es z.σ a b=aa r) {Q:aE->aM->Prop}:
  ((∀tk,Q (.bool r) {z.s with toks:=tk})->bp c.M A (kI .In x y) Q pW z.s)/\((∀tk,Q (.bool (!r)) {z.s with toks:=tk})->bp c.M A (kI .NotIn x y) Q pW z.s):=by
 revert f;induction b using aN with
 |t I=>induction a using aN with|i i=>refineλf=>g_ f λu f=>jN f (B.tup_e λt n L e r=>k.int_e λE=>?_);refine ba (Mt u r) λF h q=>?_;refine dq h ?_;rw[show(F.map AV.i).any (λv=>dO v (.i i))=F.any (·==i)from yj ..];exact⟨λg=>in_tuple_ints (lF e) q (g z.s.toks),λg=>notin_tuple_ints (lF e) q (g z.s.toks)⟩|_=>exactλf=>bO f
 |s t=>
  induction a using aN with
  |s d=>match d with|[d]=>refineλf=>jN f (B.str_e λE=>k.str_e λN=>?_);rw[<-PM];exact⟨λg=>in_str (g z.s.toks),λg=>notIn_str (g z.s.toks)⟩|[]=>exactλf=>bO f|_::_::_=>exactλf=>bO f
  |_=>exactλf=>bO f
 |l n=>
  refine B.loc_e λb G=>?_;show R9 a z.σ[n]?=aa r->_;refine SR.loc_e X G λo ob=>?_;induction o using b8 with
  |d O=>
   refine eV ob ?_;clear ob;intro ds n e p H;have J:=J5 w X G;refineλf=>g_ f λK f=>jN f ⟨λg=>?_,λg=>?_⟩
   ·exact aA (xg J D e p H K k λtk=>aW (g tk))
   ·exact aA (xg J D e p H K k λtk=>aW (g tk))
  |l I=>
   refine d9 ob ?_;clear ob;intro L n e p;induction a using aN with
   |s d=>
    refineλf=>g_ f λu f=>jN f (k.str_e λE=>?_);refine ba (Mu u p) λC h q=>?_;clear u f p;refine dq h ?_;have:(C.map AV.s).any (λv=>dO v (.s d))=(C.map eO).any (·==eO d):=by rw[yj,yj];exact aU (C.any ·) (funext λj=>(vB j d).symm)
    rw[this];exact⟨λg=>in_list_strs (iQ e) q (g z.s.toks),λg=>notin_list_strs (iQ e) q (g z.s.toks)⟩
   |_=>exactλf=>bO f
  |_=>exactλf=>bO f
 |_=>exactλf=>bO f
theorem C4 {a:AV} (e:Vz c z a x):(x==.none)=Et a:=by induction a using aN with|n=>exact e.none_e rfl|b _=>exact e.bool_e rfl|u _=>exact e.bi_e rfl|y _=>exact e.ty_e rfl|i _=>exact e.int_e λd=>rfl|s _=>exact e.str_e λd=>rfl|t _=>exact e.tup_e λd d d d d=>rfl|l _=>exact e.loc_e λd d=>rfl|r _ _=>exact e.rng_e λd d d d d=>rfl|o _ _=>exact e.clo_e λd d d d d d d=>rfl|f _=>exact e.fn_e λd d=>rfl|c _=>exact e.cls_e λd d=>rfl
theorem AM {a:AV} {f:aq->aq->bD} {g:ae af->ae af->bD} (X:fz c z) (e:Vz c z a x) (h:Vz c z b y)
  (k:∀i j t d Q E,Q (.bool (f i j)) z.s->bp c.M A (kI J (.int i t) (.int j d)) Q E z.s) (l:∀i j t d Q E,Q (.bool (g i j)) z.s->bp c.M A (kI J (.str (eO i) t) (.str (eO j) d)) Q E z.s):
  Lf c A Bv (opt z.σ (match a,b with|.i x,.i y=>aa (f x y)|.s x,.s y=>aa (g x y)|_,_=>ah)) (kI J x y) z:=by
 induction a using aN with
 |i i=>induction b using aN with|i j=>exact e.int_e λt=>h.int_e λd=>k _ _ _ _ _ _ (ez.here X rfl)|_=>trivial
 |s i=>induction b using aN with|s j=>exact e.str_e λt=>h.str_e λd=>l _ _ _ _ _ _ (ez.here X rfl)|_=>trivial
 |_=>trivial
theorem vE {a:AV} (g:∃o,c.h₀.get? jo=aa o) (i:A.units+7<cLine) (X:fz c z) (e:Vz c z a x) (f:Vz c z b y):Lf c A Bv (opt z.σ (dG J a b z.σ)) (kI J x y) z:=by
 induction J using PySem.CmpOp.casesOn with
 |Eq=>exact Uf (de (eG ..) i) X e f
 |NotEq=>exact Sw i X e f
 |Lt=>exact AM X e f (λd d d d d d h=>lt_int h) (λd d d d d d h=>lt_str h)
 |Gt=>exact AM X e f (λd d d d d d h=>gt_int h) (λd d d d d d h=>PySem.P.gt_str h)
 |LtE=>exact AM X e f (λd d d d d d h=>le_int h) (λd d d d d d h=>PySem.P.le_str h)
 |GtE=>exact AM X e f (λd d d d d d h=>ge_int h) (λd d d d d d h=>PySem.P.ge_str h)
 |Is=>induction b using aN with|n=>exact f.none_e (is_none (ez.here X (aU oy (C4 e))))|_=>trivial
 |IsNot=>induction b using aN with|n=>exact f.none_e (isNot_none (ez.here X (aU (λb=>oy !b) (C4 e))))|_=>trivial
 |In=>exact Lf.oo λr j=>(OX g i X e f j).1 λtk=>ez.val X tk rfl
 |NotIn=>refine Lf.oo λr j=>?_;refine ba (bK.mp j) λm k l=>?_;clear j;refine dH l ?_;exact(OX g i X e f k).2 λtk=>ez.val X tk rfl
theorem zI {v:AV} (X:fz c z) (r:Vz c z v u):Lf c A Bb (opt z.σ (truth v z.σ)) (yk u) z:=by
 induction v using aN with
 |b b=>exact r.bool_e (jt (ez.here X rfl))
 |l n=>
  refine r.loc_e λb g=>?_;show Lf c A Bb (opt z.σ (G7 z.σ[n]?)) _ z;refine SR.loc_e X g λo ob=>?_;induction o using b8 with
  |l I=>refine d9 ob ?_;clear ob;intro h n e a;refine Lf.optIf λf=>wpAny_truthy_list (iQ e) (by rw[cb,<-a.length];exact yl (nU.mpr (zG f)) #[0]) (ez.val X _ ?_);rw[List.isEmpty_toArray];clear f;induction I using aV with|nil=>exact a.nil_e rfl|cons _ _=>exact a.cons_e λd d d d=>rfl
  |_=>trivial
 |_=>trivial
end
noncomputable abbrev xI (a b:aE):fK:={cls:=.type "slice",data:=.fields #[a,b,.none]}
abbrev Gm (c:Cfg) (A:cQ) (s:aM) (x y:aE) (m:eR aE):Prop:=∀(T id:aC) (Q:aE->aM->Prop) (E:aE->aM->Prop),s.TypeIs x T->typeLookup (.type T) "__getitem__"=pure (aa (.builtin id))->bp c.M A (tE x y) Q E s->bp c.M A m Q E s
section
variable {c:Cfg} {A:cQ} {z:Zs} {ρ:ae bh} {h:dj} {m:eR aE} {x y:aE}
variable {n l C d k:af} {α:Type} {o U:au (aq×Tok)} {sl:bh} {u:aE} {I:ae AV} {J:ae aE} {i:aq} {a:AV} {p:au AV}
theorem Hk {j:af} (h:idx n i=aa j):seqIndex? i n=aa j:=by
 unfold idx at h;unfold seqIndex?;by_cases b:0<=i
 ·rw[aF b]at h;rw[aG (s8.mpr b)];by_cases a:i<n
  ·rw[aF a]at h;rw[aF (br.mpr ⟨aI b,aI a⟩)];exact h
  ·rw[aG a]at h;exact bO h
 ·rw[aG b]at h;rw[aF (BV.mp b)];by_cases a:0<=i+n
  ·rw[aF a]at h;rw[aF (br.mpr ⟨aI a,aI (by omega)⟩)];exact h
  ·rw[aG a]at h;exact bO h
theorem PN (h:0<=i/\i<n):idx n i=aa i.toNat:=by unfold idx;rw[aF h.1,aF h.2]
theorem Hl {i:AV} (f:Gm c A z.s x y m) (H:A.units+7<cLine) (X:fz c z) (D:Vz c z a x) (B:Vz c z i y):Lf c A (Vz c) (opt z.σ (du a i z.σ)) m z:=by
 refine Lf.oo λv h=>?_;revert h;induction a using aN with
 |t I=>induction i using aN with|i k=>refineλh=>g_ (p:=cP k) h λK h=>ob h λj L M=>?_;revert f;refine D.tup_e λt n J e r f=>?_;refine ba (r.get M) λu E F=>?_;refine f "tuple" _ _ _ (nC e) nV.lookup ?_;have N:=mn K;revert f;exact B.int_e λtk U=>PyProof.Rows.getItem_tuple (lF e) (by omega) (by omega) (by rw[cb,<-r.length];exact Hk L) ((dX ..).trans E) (ez.here X F)|_=>exactλh=>bO h
 |s t=>
  induction i using aN with
  |i k=>
   intro h;have h:(if 0<=k/\k<t.length/\t.length<=limit then(t[k.toNat]?).map λc=>AV.s [c]else ah)=aa v:=h;by_cases g:0<=k/\k<t.length/\t.length<=limit
   rotate_left
   ·rw[aG g]at h;exact bO h
   rw[aF g]at h;refine ba (bK.mp h) λG O w=>?_;refine dH w ?_;have V:limit<2^30:=by decide
   revert f;refine D.str_e λtk=>B.int_e λP f=>f "str" _ _ _ (w7 _ _ _) slot_str_getitem.lookup (PyProof.Rows.getItem_str (c:=G) ?_ ?_ (ez.val X _ (VR.str [G] _)))
   ·rw[gY];exact⟨aX (by omega),aX (by omega)⟩
   ·rw[pB,Hk (PN ⟨g.1,g.2.1⟩)];exact(dX ..).trans O
  |_=>exactλh=>bO h
 |l n=>
  revert f;refine D.loc_e λb Q f=>?_;show Eu i z.σ[n]?=aa v->_;refine SR.loc_e X Q λo ob=>?_;induction o using b8 with
  |l I=>
   refine d9 ob ?_;clear ob;intro J R e r;induction i using aN with
   |i k=>
    revert f;refine B.int_e λtk f h=>?_;have h:(if 0<=k/\k<I.length/\cP k=ai then I[k.toNat]? else ah)=aa v:=h;by_cases g:0<=k/\k<I.length/\cP k=ai
    ·rw[aF g]at h;refine ba (r.get h) λu E F=>?_;have N:=mn g.2.2;exact f "list" _ _ _ (Cj e) slot_list_getitem.lookup (wpAny_getItem_list (iQ e) g.1 (by omega) ((dX ..).trans E) (ez.here X F))
    ·rw[aG g]at h;exact bO h
   |_=>exactλh=>bO h
  |d S=>
   refine eV ob ?_;clear ob;intro ds R e r T;refineλh=>g_ (p:=d_ S i) h λg h=>?_;have C:=vD e;refine f "dict" _ _ _ C sL.lookup ?_;unfold tE
   try with_reducible refine dk ?_
   refine aA (oL C #[0] (aA (lp (name:=aZ "__getitem__") C sL (iO sL C entry_dict_getitem ?_ (args_dict_getitem _ _)))));show bp _ _ (yU _ y>>=_) _ _ z.s;refine aA (Ci (by show A.units+1+2<cLine;exact#[79,H]) e r T g B λo tk q=>?_);rw[h]at q;refine ba q ?_;clear q;intro u w q;refine dq w ?_;exact aW (aY u rfl (aW (ez.val X tk q)))
  |_=>exactλh=>bO h
 |_=>exactλh=>bO h
inductive zJ (c:Cfg) (ρ:ae bh) (h:dj):au AV->aE->Prop
 |none:zJ c ρ h ah .none
 |some {v:AV} {u:aE}:VR c ρ h v u->zJ c ρ h (aa v) u
abbrev Pz (c:Cfg):nj (au AV) aE:=λz=>zJ c z.ρ z.s.heap
theorem zJ.step {ex a:ae bh} {b:dj} {v:au AV} (st:fN ex ρ h a b) (p:zJ c ρ h v u):zJ c a b v u:=by cases p with|none=>exact .none|some r=>exact .some (r.step st)
theorem PO (n:af) (i:aq):ub n i<=n:=by exact Int.toNat_le.mpr (Int.max_le.mpr ⟨j7 n,Int.min_le_right _ _⟩)
theorem PP (n:af) (i:aq):ub n i=if 0<=i then min i.toNat n else(i+n).toNat:=by
 by_cases h:0<=i
 ·rw[aF h];obtain⟨m,rfl⟩:=h_ h;exact clipAt_nat n m
 ·rw[aG h];obtain⟨k,rfl⟩:=Int.eq_negSucc_of_lt_zero (BV.mp h);exact(clipAt_neg n (k+1) (Gj k)).trans (DW n (k+1)).symm
structure AN (u:aE) (n d k:af) (o:au (aq×Tok)):Prop where
 is:u=partValue o
 pl:(o.map (·.1)).elim d (ub n)=k
 le:d<=n->k<=n
theorem tA (r:zJ c ρ h p u) (e:wk n d p=aa k):∃o,AN u n d k o:=by
 cases r with
 |none=>exact⟨ah,rfl,aw e,λh=>aw e▸h⟩
 |@some v u r=>induction v using aN with|i i=>refine g_ (p:=cP i) e λa e=>r.int_e λt=>?_;have q:ub n i=k:=(PP n i).trans (aw e);exact⟨aa (i,t),rfl,q,λa=>q▸PO n i⟩|_=>exact bO e
theorem AN.part (h:AN u n d k o):IsPart u (o.map (·.1)):=by rw[h.is];induction o using cX with|none=>exact .none|some p=>exact .int _ _
theorem tB (a:ae α) (lo b:af):dZ a lo b=(a.drop lo).take (b-lo):=vU ..
theorem EL (a:ae α) (lo b:af):(dZ a lo b).length<=a.length:=by rw[cj,bR];exact#[5,e9 _ _,bY _ _]
theorem EM (a:ae α):dZ a 0 a.length=a:=pe
theorem fq.cut (r:fq c ρ h I J) (lo a:af):fq c ρ h (dZ I lo a) (dZ J lo a):=(r.take a).drop lo
theorem J6 (l:ae α) (a b:af) (c:a<=l.length) (d:b<=l.length):((mH (b-a)).map (λk=>a+k)).filterMap (l[·]?)=dZ l a b:=by rw[tB];exact StrLaws.picks l (b-a) a (by omega)
theorem Iv {a:bh} (e:z.s.heap.get? a=aa (mz J n)) (f:z.s.heap.get? sl=aa (xI x y)) (r:lX c z I J)
  (b:AN x I.length 0 l o) (d:AN y I.length I.length C U) (g:bV I=ai) (X:fz c z):bp c.M A (tE (.ref a) (.ref sl)) (ez c (Vz c) z (.l z.σ.length) (z.σ++[.l (dZ I l C)])) pW z.s:=by
 refine wpAny_getItem_list_slice (iQ e) (dS _ f rfl rfl) b.part d.part .none (by simp) ?_ (by rw[cb,<-r.length];exact jh g);rw[slicePick_plain,show J.toArray.size=I.length from r.length.symm,b.pl,d.pl,<-tB];exact zH X _ (r.cut l C)
set_option tactic.hygienic true in
theorem J7 {t:Tok} {xs:ae af} (n:z.s.heap.get? sl=aa (xI x y))
  (b:AN x xs.length 0 l o) (e:AN y xs.length xs.length C U) (p:bV xs=ai) (X:fz c z):bp c.M A (tE (.str (eO xs) t) (.ref sl)) (ez c (Vz c) z (.s (dZ xs l C)) z.σ) pW z.s:=by
 have f:slicePicked (eO xs) o U ah=(mH (C-l)).map (λk=>l+k):=by
  have g:∀(o:au aq) (d:af),(match o with|none=>(d:aq)|some i=>max 0 (min (if i<0 then i+(xs.length:aq)else i) (xs.length:aq)))=((o.elim d (ub xs.length):af):aq):=by intro o d;induction o using cX with|none=>rfl|some i=>exact(clipAt_cast _ _).symm
  have h:=g (o.map (·.1)) 0;have j:=g (U.map (·.1)) xs.length;rw[b.pl]at h;rw[e.pl]at j;rw[<-sliceRange_one l C,<-h,<-j];cases o<;>cases U<;>rfl
 have q:(slicePicked (eO xs) o U ah).filterMap ((eO xs).cps[·]?)=dZ xs l C:=by rw[f,<-J6 xs l C (b.le (fO _)) (e.le (bf _))];exact aU (List.filterMap · _) (funext λi=>dX ..)
 have r:=b.is;have v:=e.is;subst r v;refine wpAny_getItem_str_slice (l:=o) (u:=U) (st:=ah) (dS _ n rfl rfl) rfl ?_;unfold sliceMade;split
 ·rename_i a
  simp only[Option.map_none,Option.getD_none,fk,jA,eh]at a;rw[f,pB]at a;simp at a;have m:=e.le (bf _);have w:=b.le (fO _);obtain rfl:l=0:=aB #["Q|'RY&ux?m^Qbs}uTA",a,m,ag #["CFIPu?(4(KgQe3q4",a,w,bY _ _]] #[4];obtain rfl:C=xs.length:=aB #[1,m] #[84,a,bY _ _];rw[EM];exact ez.here X (.str xs t)
 ·rw[q];exact⟨dI (EL xs l C) (jh p),ez.val X _ (.str _ _)⟩
theorem Iw (a b:af):kD (a:aq) (b:aq) 1=b-a:=by
 unfold kD;rw[aF #[0],Int.ediv_one];by_cases h:(a:aq)<b
 ·rw[aF h,Int.sub_add_cancel];exact DW b a
 ·rw[aG h];exact(pM (nU.mp (s8.mp h))).symm
theorem xJ {s:aM} {E:aE->aM->Prop} {o:au aq} {Q:au aq->aM->Prop} (h:IsPart x o) (a:Q o s):bp c.M A (Builtin.Slice.slicePartIndex x) Q E s:=by cases h with|none=>exact slicePart_none a|int i t=>exact slicePart_int a
theorem GB (a b:au aq) (n:af):nx a b 1 (n:aq)=(((a.elim 0 (ub n):af):aq),((b.elim n (ub n):af):aq)):=by
 have c:∀(i:aq),(if i<0 then max (i+(n:aq)) 0 else min i (n:aq))=((ub n i:af):aq):=by
  intro i;rw[clipAt_cast];by_cases h:i<0
  ·rw[aF h,aF h,Int.min_eq_left (Gk (Int.add_le_add_right (Int.le_of_lt h) _) (Int.le_of_eq (ym _))),Int.max_comm]
  ·rw[aG h,aG h,uc (Int.le_min.mpr ⟨s8.mp h,j7 n⟩)]
 unfold nx;have d:¬((1:aq)<0):=by decide
 simp only[d,qZ,c];cases a<;>cases b<;>rfl
theorem J8 {a:bh} (e:z.s.heap.get? a=aa (r5 J n)) (p:z.s.heap.get? sl=aa (xI x y)) (r:lX c z I J)
  (u:AN x I.length 0 l o) (v:AN y I.length I.length C U) (E:bV I=ai) (X:fz c z):bp c.M A (tE (.ref a) (.ref sl)) (ez c (Vz c) z (.t (dZ I l C)) z.σ) pW z.s:=by
 have d:=r.length;have i:=u.le (fO _);have f:=v.le (bf _);have q:=nC e;have w:z.s.TypeIs (.ref sl) "slice":=aY _ p rfl;unfold tE
 try with_reducible refine dk ?_
 refine aA (oL q #[0] (aA (lp (name:=aZ "__getitem__") q nV (iO nV q entry_tuple_getitem ?_ (args_tuple_getitem _ _)))));show bp _ _ (se (.ref a)>>=_) _ _ z.s;refine aA (yh e rfl (aA (yn w ?_)));rw[aF #[0]];have j:∀{Q:aq×aq×af->aM->Prop} {B:cQ} {D:aE->aM->Prop},Q ((l:aq),1,C-l) z.s->bp c.M B (Builtin.Slice.sliceApplied (.ref sl) (pure (J.toArray.size:aq))) Q D z.s:=by intro Q B D F;refine aA (aA (oW p rfl (x:=x) rfl (aA (oW p rfl (x:=y) rfl (aA (oW p rfl (x:=.none) rfl (aW (aA (slicePart_none ?_)))))))));rw[aG #[0]];refine aA (xJ u.part (aA (xJ v.part (aA (aW ?_)))));show bp _ _ (match nx (o.map (·.1)) (U.map (·.1)) 1 (J.toArray.size:aq)with|(lo,hi)=>pure (lo,(1:aq),kD lo hi 1)) _ _ z.s;rw[cb,<-d,GB,u.pl,v.pl];show bp _ _ (pure ((l:aq),(1:aq),kD (l:aq) (C:aq) 1)) _ _ z.s;rw[Iw];exact aW F
 refine aA (j ?_);have g:((mH (C-l)).filterMap λ(k:af)=>J.toArray[((l:aq)+(k:aq)*1).toNat]?).toArray=(dZ J l C).toArray:=by
  have G:(λ(k:af)=>J.toArray[((l:aq)+(k:aq)*1).toNat]?)=(λk=>J[k]?)∘λk=>l+k:=by
   funext k
   have:((l:aq)+(k:aq)*1).toNat=l+k:=by omega
   rw[this];exact dX ..
  rw[G,<-List.filterMap_map,J6 J l C (d▸i) (d▸f)]
 show bp _ _ (if((l:aq)==0&&(1:aq)==1&&(C-l)==J.toArray.size)=ai then _ else _) _ _ z.s;by_cases h:(((l:aq)==0&&(1:aq)==1&&(C-l)==J.toArray.size)=ai)
 ·rw[aF h];simp only[cB,eh,cb]at h;obtain rfl:l=0:=aB #["Gk}|3Upwd!xXYZ01R?SGVW",d,f,h.2,ag #["7eWlq&it3v`u,ADoE=by",d,i,h.2,bY _ _]] #[4];obtain rfl:C=I.length:=aB #[1,f] #["CFIPvkA`mLkfPNyS",d,h.2,bY _ _];rw[EM];refine aA (aA (yn q (aW ?_)));rw[aF #[0]]
  first
   |exact aA (iH (aW (aY _ rfl (aW (ez.here X (.tup e r))))))
   |exact aA (iH (aA (aW (aW ⟨_,rfl,aW (ez.here X (.tup e r))⟩))))
 ·rw[aG h,g];have b:sizeOk (.seq (dZ J l C).toArray):=dI (EL J l C) (d▸jh E)
  first
   |exact aA (m:=kY _) (ju (aW (aY _ rfl (aW (tu X _ (r.cut l C))))) b)
   |exact aA (m:=kY _) (ju (aA (aW (aW ⟨_,rfl,aW (tu X _ (r.cut l C))⟩))) b)
   |exact aA (aA (m:=kY _) (ju (aW (aW ⟨_,rfl,aW (tu X _ (r.cut l C))⟩)) b))
   |exact aA (aA (m:=kY _) (ju (aW ⟨_,rfl,aW (tu X _ (r.cut l C))⟩) b))
theorem Lf.two {V:nj α aE} {p q:au af} {f:af->af->R α} (k:∀a b,p=aa a->q=aa b->Lf c A V (f a b) m z):Lf c A V (Ew p q f) m z:=by
 induction p using cX with
 |none=>trivial
 |some a=>induction q using cX with|none=>trivial|some b=>exact k a b rfl rfl
theorem Mv {q:au AV} {C:aE} (f:Gm c A z.s x (.ref sl) m) (u:z.s.heap.get? sl=aa (xI y C)) (X:fz c z) (v:Vz c z a x) (w:Pz c z p y) (B:Pz c z q C):Lf c A (Vz c) (slice a p q z.σ) m z:=by
 revert f;induction a using aN with
 |t I=>refine v.tup_e λt n J e r f=>Lf.ite λd=>Lf.two λl h g i=>?_;refine ck (tA w g) λo j=>?_;refine ck (tA B i) λU k=>?_;exact f "tuple" _ _ _ (nC e) nV.lookup (J8 e u r j k d X)
 |s t=>refine v.str_e λE f=>Lf.ite λd=>Lf.two λl h g i=>?_;refine ck (tA w g) λo j=>?_;refine ck (tA B i) λU k=>?_;exact f "str" _ _ _ (w7 _ _ _) slot_str_getitem.lookup (J7 u j k d X)
 |l n=>refine v.loc_e λb D f=>?_;show Lf c A (Vz c) (B7 p q z.σ z.σ[n]?) m z;refine SR.loc_e X D λo ob=>?_;induction o using b8 with|l I=>refine d9 ob ?_;clear ob;intro J n e r;refine Lf.ite λd=>Lf.two λl h g i=>?_;refine ck (tA w g) λo j=>?_;refine ck (tA B i) λU k=>?_;exact f "list" _ _ _ (Cj e) slot_list_getitem.lookup (Iv e u r j k d X)|_=>trivial
 |_=>exactλF=>trivial
end
section
variable {c:Cfg} {A:cQ} {z:Zs} {ρ:ae bh} {σ:St} {h:dj}
theorem EN (i:aq):aZ (toString i)=eO (gm i):=aU (λl=>(⟨l.toArray⟩:cI)) (mq (toString i))
theorem DM {x:ae af} {k:af} (h:Ax x=aa k) (a:x.length<=16):PySem.intText? (eO x)=aa (k:aq):=by induction x using aV with|nil=>exact bO h|cons d ds=>have h:=h;refine g_ h λb h=>jN h ?_;exact PySem.intText_digits (λc e=>bC (cy.mp b c e)) (λq=>nomatch q) (by rw[pB];exact#["4PT?%U5>j'=C&g2",a])
theorem Mw {i:aq} (h:(cP i||decide (-(10^17)<i/\i<10^17))=ai):i.natAbs.log2<100:=by
 have a:i.natAbs<2^100:=by
  rcases m8.mp h with h|h
  ·have:=mn h;omega
  ·have:=bC h;omega
 by_cases h0:i.natAbs=0
 ·rw[h0];decide
 ·exact(Nat.log2_lt h0).mpr a
variable {C:ae AV} {I:ae aE}
theorem J9 {n:aC} (X:fz c z) (r:lX c z C I):Lf c A (Vz c) (kq n C z.σ) (call (.type n) I) z:=by
 unfold kq;by_cases d:n="range"
 ·rw[aF d];refine dq d ?_;induction C using aV with
  |nil=>trivial
  |cons a C=>
   induction a using aN with
   |i a=>
    induction C using aV with
    |nil=>exact Lf.ite λf=>r.cons_e λu I a r=>r.nil_e (a.int_e λt=>call_range_1 (aY _ (.push X _ _) (.rng (dF _ rfl))))
    |cons b C=>
     induction b using aN with
     |i b=>induction C using aV with|nil=>exact Lf.ite λf=>r.cons_e λu I a r=>r.cons_e λw I b r=>r.nil_e (a.int_e λt=>b.int_e λy=>call_range_2 (aY _ (.push X _ _) (.rng (dF _ rfl))))|cons _ _=>trivial
     |_=>trivial
   |_=>trivial
 rw[aG d];by_cases h2:n="str"
 ·rw[aF h2];clear d;refine dq h2 ?_;induction C using aV with
  |nil=>trivial
  |cons a C=>
   induction C using aV with
   |cons _ _=>cases a<;>trivial
   |nil=>induction a using aN with|s x=>exact r.cons_e λu I a r=>r.nil_e (a.str_e λt=>PySem.P.str_of_str (ez.here X (.str _ _)))|i i=>refine Lf.ite λp=>r.cons_e λu I a r=>r.nil_e (a.int_e λt=>PySem.P.str_of_int (ud (Mw p) #[0]) ?_);rw[EN];exact ez.val X _ (.str _ _)|_=>trivial
 rw[aG h2];by_cases g:n="int"
 ·rw[aF g];clear d h2;refine dq g ?_;induction C using aV with
  |nil=>trivial
  |cons a C=>
   induction C using aV with
   |cons _ _=>cases a<;>trivial
   |nil=>
    induction a using aN with
    |s x=>refine Lf.ite λh=>?_;have h:=bC h;cases j:Ax x with|none=>trivial|some k=>exact r.cons_e λu I a r=>r.nil_e (a.str_e λt=>PySem.W.KIN.call_text (DM j h) (by rw[pB];exact#["t0pm2|Fs1g)3'g",h]) (ez.val X _ (.int _ _)))
    |_=>trivial
 rw[aG g];refine Lf.ite λq=>?_;clear d h2 g;refine dq q ?_;induction C using aV with
 |nil=>trivial
 |cons a C=>
  induction C using aV with
  |cons _ _=>cases a<;>trivial
  |nil=>
   induction a using aN with
   |t C=>exact r.cons_e λu I a r=>r.nil_e (a.tup_e λt n I e r=>call_tuple_tup (lF e) (ez.here X (.tup e r)))
   |l l=>refine r.cons_e λu I a r=>r.nil_e (a.loc_e λb v=>?_);show Lf c A (Vz c) (OD z.σ z.σ[l]?) _ z;refine SR.loc_e X v λo ob=>?_;induction o using b8 with|l C=>refine d9 ob ?_;clear ob;intro I n e r;exact Lf.ite λm=>call_tuple_list (iQ e) (λB j=>aY _ (.keeps X (λa o e=>kA _ a o (j a o e)) _) (.tup (dF _ rfl) (r.map (λf f e=>e) λa o f e=>kA _ a o (j a o e)))) (by rw[cb,<-r.length];exact jh m)|_=>trivial
   |_=>trivial
theorem zK {α:Type} {xs:ae α} (h:bV xs=ai):(xs.length:aq)<2^63:=yl (nU.mpr (zG h)) #[0]
theorem Sx (X:fz c z) (r:lX c z C I):Lf c A (Vz c) (builtin "len" C z.σ) (call (.builtin "len") I) z:=by
 unfold builtin;rw[aF rfl];induction C using aV with
 |nil=>trivial
 |cons a C=>
  induction C using aV with
  |cons _ _=>cases a<;>trivial
  |nil=>
   induction a using aN with
   |t C=>refine Lf.ite λd=>r.cons_e λu I a r=>r.nil_e (a.tup_e λt n I e r=>PyProof.Rows.len_tuple (lF e) (by rw[cb,<-r.length];exact zK d) ?_);rw[cb,<-r.length];exact ez.val X _ (.int _ _)
   |s x=>exact Lf.ite λd=>r.cons_e λu I a r=>r.nil_e (a.str_e λt=>PySem.P.len_str (BV.mpr (zK d)) (ez.val X _ (.int _ _)))
   |l l=>refine r.cons_e λu I a r=>r.nil_e (a.loc_e λb f=>?_);show Lf c A (Vz c) (OC z.σ z.σ[l]?) _ z;refine SR.loc_e X f λo ob=>?_;induction o using b8 with|l C=>refine d9 ob ?_;clear ob;intro I n e r;refine Lf.ite λd=>PySem.Calls.call_len_list (iQ e) (by rw[cb,<-r.length];exact zK d) ?_;rw[cb,<-r.length];exact ez.val X _ (.int _ _)|_=>trivial
   |_=>trivial
theorem J_ (X:fz c z) (r:lX c z C I):Lf c A (Vz c) (builtin "isinstance" C z.σ) (call (.builtin "isinstance") I) z:=by
 unfold builtin;rw[aG #[0],aG #[0],aF rfl];induction C using aV with
 |nil=>trivial
 |cons a C=>
  induction C using aV with
  |nil=>trivial
  |cons b C=>
   induction C using aV with
   |cons _ _=>cases b<;>trivial
   |nil=>
    induction b using aN with
    |y n=>refine Lf.ite λe=>r.cons_e λu I d r=>r.cons_e λf I b r=>r.nil_e (b.ty_e ?_);refine dq e ?_;induction a using aN with|s _=>exact d.str_e λt=>PySem.IsiPair.str_str (ez.here X (.bool _))|i _=>exact d.int_e λt=>PySem.IsiPair.int_str (ez.val X _ (.bool _))|_=>trivial
    |_=>trivial
end
end
section
open PySem PySem.W PyProof.Rows PySem.SeqAt
theorem AP {k v:AV} {es:ae (AV×AV)}:(es.findIdx? (λe=>dO e.1 k)=ah/\oF k v es=es++[(k,v)])\/∃i a b,es.findIdx? (λe=>dO e.1 k)=aa i/\es[i]?=aa (a,b)/\oF k v es=es.set i (a,v):=by
 induction es with
 |nil=>exact .inl ⟨rfl,rfl⟩
 |cons e r f=>
  obtain⟨a,b⟩:=e;rw[j6];unfold oF;cases q:dO a k with
  |true=>exact .inr (l7 0 a b rfl rfl rfl)
  |false=>
   rcases f with⟨c,d⟩|⟨i,g,h,c,d,j⟩
   ·exact .inl ⟨by rw[c];rfl,aU ((a,b)::·) d⟩
   ·exact .inr (l7 (i+1) g h (by rw[c];rfl) d (aU ((a,b)::·) j))
section
variable {c:Cfg} {C:ae bh} {h:dj} {H:AV->aq}
theorem mO.append {d:ae (AV×AV)} {f:ae ew} (q:mO c C h H d f) {es:ae (AV×AV)} {ds:ae ew} (r:mO c C h H es ds):mO c C h H (es++d) (ds++f):=by induction r with|nil=>exact q|cons a b e _ g=>exact .cons a b e g
theorem mO.setV {v:AV} {u:aE} (r:VR c C h v u) {es:ae (AV×AV)} {ds:ae ew} (q:mO c C h H es ds):∀{i:af} {a b:AV},es[i]?=aa (a,b)->mO c C h H (es.set i (a,v)) (ds.modify i λe=>{e with val:=u}):=by
 induction q with
 |nil=>exactλe=>bO e
 |cons k b e q f=>intro i a j d;induction i using gC with|zero=>refine dp (eK (aw d)) λg l=>?_;exact g▸.cons k r e q|succ i=>exact .cons k b e (f d)
end
section
variable {c:Cfg} {A:cQ} {z:Zs} {J:ae bh} {I:St} {h:dj}
variable {x u y:aE} {v k o:AV} {l:af} {C:aC}
theorem AQ {es:ae (AV×AV)} (f:(es.map (·.1)).Nodup):((oF k v es).map (·.1)).Nodup:=by
 rcases AP (k:=k) (v:=v) (es:=es)with⟨g,c⟩|⟨i,a,b,g,c,l⟩
 ·rw[c,dh,l4];refine dy f (eW.mpr ⟨(λh=>nomatch h),.nil⟩) (λx j y m e=>?_);refine ba (bT.mp j) λn o d=>?_;clear j;obtain rfl:=d;have:=sZ.mp g n o;rw[zF.mpr (e.trans (aL.mp m))]at this;exact nomatch this
 ·rw[l,Ge];have e:(es.map (·.1))[i]?=aa a:=by rw[bE,c];rfl
  refine ck (aP.mp e) λp e=>?_;rw[<-e,List.set_getElem_self];exact f
theorem Ck {E:aE->aM->Prop} {Q:dt->aM->Prop} {g:St} {d:bh} (h:l9 l k v z.σ=.k () g) (X:fz c z) (D:A.units+6<cLine) (hd:z.ρ[l]?=aa d) (r:Vz c z k u) (F:Vz c z v x)
  (G:∀H tk,Good c [] z ⟨z.ρ,g,{z.s with heap:=H,toks:=tk}⟩->Q () {z.s with heap:=H,toks:=tk}):bp c.M A (yV d u x) Q E z.s:=by
 revert h;show Az l k v z.σ z.σ[l]?=.k () g->_;refine SR.loc_e X hd λo ob=>?_;induction o using b8 with
 |d j=>
  refine eV ob ?_;clear ob;intro ds n e q t;intro h;have h:(if(d_ j k&&bV j)=ai then R.k () (z.σ.set l (.d (oF k v j)))else .b)=.k () g:=h;by_cases y:(d_ j k&&bV j)=ai
  ·rw[aF y]at h;obtain rfl:=(R.k.inj h).2;refine dp (br.mp y) λI K=>?_;unfold yV
   try with_reducible refine dk ?_
   refine aA (Hj (c:=c) (J:=z.ρ) #[179,D] (br.mp I).1 r λtk=>?_);unfold dictSetHashed
   try with_reducible refine dk ?_
   refine aA (Hi (s:={z.s with toks:=tk}) #[179,D] e q t I r ?_);rcases AP (k:=k) (v:=v) (es:=j)with⟨B,C⟩|⟨i,a,b,B,C,L⟩
   ·rw[B];have f:(z.s.heap.update d (Obj.mapDictKeys (·.push ⟨jC c.w k,u,x⟩))).get? d=aa (mA (ds++[⟨jC c.w k,u,x⟩]) (n+1)):=by
     rw[iV _ e (xA (Obj.data_mapDictKeys rfl _))];exact aU (λa=>aa ({cls:=.type "dict",data:=.dict a (n+1)}:fK)) (y4 ..)
    have p:gQ d z.s.heap (z.s.heap.update d (Obj.mapDictKeys (·.push ⟨jC c.w k,u,x⟩))):=m9 ..;have st:fN [] z.ρ z.s.heap z.ρ _:=.turn X hd p ⟨_,f⟩;refine aA (iH (wpAny_updateDictKeys (hz:=by rw[cb,<-q.length];exact jh K) (s:={z.s with toks:=tk}) e rfl (G _ _ (.turn X tk hd p ⟨_,f⟩ (fD _ _ f ?_ (AQ t))))));rw[C];exact .append (.cons (r.step st) (F.step st) rfl .nil) (q.map st.get st.fixed)
   ·rw[B];have f:(z.s.heap.update d (Obj.mapDict (·.modify i λe=>{e with val:=x}))).get? d=aa (mA (ds.modify i λe=>{e with val:=x}) n):=by
     rw[iV _ e (xA (Obj.data_mapDict rfl _))];exact aU (λa=>aa ({cls:=.type "dict",data:=.dict a n}:fK)) (List.modify_toArray ..)
    have p:gQ d z.s.heap (z.s.heap.update d (Obj.mapDict (·.modify i λe=>{e with val:=x}))):=m9 ..;have st:fN [] z.ρ z.s.heap z.ρ _:=.turn X hd p ⟨_,f⟩;refine aA (iH (aA (wpAny_updateDict (s:={z.s with toks:=tk}) e rfl (wpAny_point (G _ _ (.turn X tk hd p ⟨_,f⟩ (fD _ _ f ?_ (AQ t))))))));rw[L];exact .setV (F.step st) (q.map st.get st.fixed) C
  ·rw[aG y]at h;exact nomatch h
 |_=>exactλh=>nomatch h
theorem Ix (X:fz c z) (j:A.units+7<cLine) (m:Vz c z (.l l) y) (n:Vz c z k u) (p:Vz c z v x):Lf c A (λ_ (_:dt) (_:dt)=>True) (l9 l k v z.σ) (setItem y u x) z:=by
 refine m.loc_e λd hd=>?_;cases h:l9 l k v z.σ with
 |b=>trivial
 |x q a=>revert h;show Az l k v z.σ z.σ[l]?=.x q a->False;refine SR.loc_e X hd λo ob=>?_;clear ob;induction o using b8 with|d e=>show(if(d_ e k&&bV e)=ai then R.k () (z.σ.set l (.d (oF k v e)))else .b)=.x q a->False;split<;>exactλh=>nomatch h|_=>exactλh=>nomatch h
 |k w a=>
  have f:z.s.TypeIs (.ref d) "dict":=by revert h;show Az l k v z.σ z.σ[l]?=.k w a->_;refine SR.loc_e X hd λo ob=>?_;induction o using b8 with|d e=>exactλi=>ob.elim λi q=>q.elim λi q=>vD q.1|_=>exactλh=>nomatch h
  show bp c.M A _ _ _ _;unfold setItem
  try with_reducible refine dk ?_
  refine aA (oL f #[0] (aA (lp (name:=aZ "__setitem__") f slot_dict_setitem (iO slot_dict_setitem f entry_dict_setitem ?_ (args_dict_setitem _ _ _)))));refine aA (wpAny_notOrdered_dict f ?_);show bp _ _ (yV d u x>>=_) _ _ z.s;exact aA (Ck h X (by show A.units+1+6<cLine;exact#["CoeNN1u(;l{?W",j]) hd n p λr tk g=>aW (aY .none rfl (aW (aY _ g trivial))))
theorem xK (X:fz c z) (p:Vz c z (.l l) y) (q:Vz c z v x):Lf c A (λ_ (_:dt) (u:aE)=>u=.none) (li l v z.σ) (call (.builtin "list.append") [y,x]) z:=by
 refine p.loc_e λa f=>?_;show Lf c A _ (JC l v z.σ z.σ[l]?) _ z;refine SR.loc_e X f λo ob=>?_;induction o using b8 with
 |l t=>
  refine d9 ob ?_;clear ob;intro h n e r;refine Lf.ite λg=>wpAny_list_append_plain (items:=h.toArray) ⟨n,e⟩ (λi j k=>?_) (by rw[cb,<-r.length];exact jh g);refine ck j ?_;clear j;intro m d;have b:i.get? a=aa (mz (h++[x]) m):=by rw[d,y4]
  have st:fN [] z.ρ z.s.heap z.ρ i:=.turn X f k ⟨_,b⟩;exact aY _ (.turn X z.s.toks f k ⟨_,b⟩ (dY _ _ b (fq.append (.cons (q.step st) .nil) (r.step st)))) rfl
 |_=>trivial
open PySem.Builtin PySem.Builtin.Str
theorem Mx (s sub:cI) (b:af) (l:ae af):∀st:bZ af×af,1<=st.fst.size->(forIn l st (qk s sub b 1)).run.fst=st.fst:=by induction l with|nil=>exactλc c=>rfl|cons a l d=>intro st h;rw[ql];unfold qk;rw[aG (by omega)];exact d _ h
noncomputable def Hm (s sub:cI) (a i:af):bD:=decide (i+sub.length<=a)&&subAt s sub i
theorem Ka (s sub:cI) (b:af) (l:ae af) (free:af):(∀i∈l,free<=i)->(forIn l ((#[]:bZ af),free) (qk s sub b 1)).run.fst=match l.find? (Hm s sub b)with|some k=>#[k]|none=>#[]:=by
 induction l with
 |nil=>exactλj=>rfl
 |cons a l e=>intro c;rw[ql,ik];unfold qk;cases d:Hm s sub b a with|true=>refine dp (br.mp d) λf g=>?_;rw[aF (⟨⟨⟨Nat.zero_lt_one,c a aH⟩,bC f⟩,g⟩:((((#[]:bZ af),free).fst.size<1/\((#[]:bZ af),free).snd<=a)/\a+sub.length<=b)/\subAt s sub a=ai)];exact Mx s sub b l _ (bf 1)|false=>rw[aG (λh:((((#[]:bZ af),free).fst.size<1/\((#[]:bZ af),free).snd<=a)/\a+sub.length<=b)/\subAt s sub a=ai=>kz.mp d (br.mpr ⟨aI h.1.2,h.2⟩))];exact e λi m=>c i (aK _ m)
theorem Kb (s m:ae af) (k:af):subAt (eO s) (eO m) k=decide ((s.drop k).take m.length=m):=by
 unfold subAt;rw[ki,eh,dM,pB];constructor
 ·intro h;have:=aU Array.toList h;simpa[eO,List.take_drop,gX,Gl]using this
 ·intro h;apply Array.toList_inj.mp;simpa[eO,gX,Gl]using h
theorem Hn (s m:ae af) (a:m≠[]) (b k:af) (g:b<=s.length):Hm (eO s) (eO m) b k=ur m (dZ s k b):=by
 unfold Hm ur;have c:0<m.length:=k_.mpr a;rw[Kb,pB,ki,cB,dM,dM,dM,tB,qY];constructor
 ·intro ⟨d,e⟩;rw[bP #["W!X56Y2O7hh4o_G",d,d8 _ _]];exact e
 ·intro h;have f:min m.length (b-k)=m.length:=by
   have:=aU fu h;rw[bR]at this;exact aB #[1,cZ _ _] #[84,this,cZ _ _]
  rw[f]at h;exact⟨by omega,h⟩
theorem GC (s m:ae af) (c:m≠[]) (b:af) (a:b<=s.length) (n:af):∀k:af,k+n=b->fe m (dZ s k b) k=(eY k (n+1)).find? (Hm (eO s) (eO m) b):=by
 induction n with
 |zero=>
  intro k h;have e:dZ s k b=[]:=by rw[tB,show b-k=0 by exact aB #["67o+eONHnxU$C3kM",h,ag #["4fR.y`sL+=",h]] #[4]];rfl
  rw[iP,ik,Hn s m c b k a,e];induction m using aV with|nil=>exact bJ rfl c|cons _ _=>rfl
 |succ n d=>
  intro k h;have e:dZ s k b=s[k]'#[78,a,h]::dZ s (k+1) b:=by rw[tB,tB,show b-k=(b-(k+1))+1 by exact aB #[118,ag #[180,h],ag #[161,h]] #[123,ag #[180,h],ag #[161,h]],cD (show k<s.length by exact#[78,a,h])];rfl
  rw[iP,ik,Hn s m c b k a,e,<-d (k+1) (aB #[36,h] #[37,h])];show(if ur m _=ai then aa k else fe m _ (k+1))=_;cases ur m (s[k]'#[78,a,h]::dZ s (k+1) b)<;>rfl
theorem Kc (s m:ae af) (d:m≠[]) (a b:af) (c:a<=b) (e:b<=s.length):(occurrences (eO s) (eO m) a b 1)=match fe m (dZ s a b) a with|some k=>[k]|none=>[]:=by rw[StrLaws.occ_eq,Ka (eO s) (eO m) b _ a (λi f=>(sM.mp f).1),GC s m d b e (b-a) a (aB #["1MW.zunGo2<S",ag c] #[85,d8 _ _]),show b+1-a=b-a+1 by exact aB #["AxbZ~N&GmfYd9rg77xo",ag #[89,c],ag c] #["{r}t~yeT7scf,v1F`k",ag #[89,c],ag c]];cases(eY a (b-a+1)).find? (Hm (eO s) (eO m) b)<;>rfl
theorem GD (x y:cI) (i j:af) (t u v a:Tok) (b:j<=x.length):Gives («str.find» ⟨[.str x t,.str y u,.int i v,.int j a],[]⟩) (.int (match occurrences x y i j 1 with|k::_=>(k:aq)|[]=>-1)):=by
 have c:(max 0 (if(i:aq)<0 then(i:aq)+x.length else i)).toNat=i:=by rw[aG (s8.mpr (j7 i)),uc (j7 i)];rfl
 have d:min (max 0 (if(j:aq)<0 then(j:aq)+x.length else j)).toNat x.length=j:=by rw[aG (s8.mpr (j7 j)),uc (j7 j)];exact bP b
 show Gives (match occurrences x y (max 0 (if(i:aq)<0 then(i:aq)+x.length else i)).toNat (min (max 0 (if(j:aq)<0 then(j:aq)+x.length else j)).toNat x.length) 1 with|k::_=>retInt k|[]=>(do rule "str.find.not-found";retInt (-1))) _;rw[c,d];induction occurrences x y i j 1 using aV with|nil=>exact .rule (.of_eq rfl)|cons k _=>exact .of_eq rfl
theorem PQ {n:aC} (h:H4 o n z.σ=aa C) (X:fz c z) (i:Vz c z o x):
  ∃T,z.s.TypeIs x T/\PlainAttrs T/\Slot T (aZ n) C/\typeOf (.builtin C)=pure (.type "method_descriptor")/\(∀a,x=.ref a->∃o,z.s.heap.get? a=aa o/\o.dict=ah):=by
 revert h;induction o using aN with
 |l l=>
  refine i.loc_e λb j=>?_;show Ay n z.σ[l]?=aa C->_;refine SR.loc_e X j λo ob=>?_;induction o using b8 with
  |l k=>
   refine d9 ob ?_;clear ob;intro p m e r;intro h;have h:(if n="append" then aa "list.append" else ah)=aa C:=h;by_cases f:n="append"
   ·clear h;subst f;exact jN h (qI ("list") (Cj e) F.plainAttrs_list slot_list_append F.type_list_append (λa g=>Value.ref.inj g▸(aY _ e rfl)))
   ·rw[aG f]at h;exact bO h
  |d q=>
   refine eV ob ?_;clear ob;intro ds m e u f;intro h;have h:(if n="get" then aa "dict.get" else ah)=aa C:=h;by_cases f:n="get"
   ·clear h;subst f;exact jN h (qI ("dict") (vD e) F.plainAttrs_dict F.slot_dict_get F.type_dict_get (λa g=>Value.ref.inj g▸(aY _ e rfl)))
   ·rw[aG f]at h;exact bO h
  |_=>exactλh=>bO h
 |s t=>
  refine i.str_e λv h=>?_;have h:(if n="find" then aa "str.find" else ah)=aa C:=h;by_cases f:n="find"
  ·clear h;subst f;exact jN h (qI ("str") (w7 _ _ _) F.plainAttrs_str F.slot_str_find F.type_str_find (λa g=>nomatch g))
  ·rw[aG f]at h;exact bO h
 |_=>exactλh=>bO h
theorem My {f:ae AV} {us:ae aE} (D:∃o,c.h₀.get? jo=aa o) (M:A.units+7<cLine) (X:fz c z) (E:Vz c z o x) (r:lX c z f us):Lf c A (Vz c) (jg C o f z.σ) (call (.builtin C) (x::us)) z:=by
 unfold jg;by_cases p:C="list.append"
 ·rw[aF p];subst p;induction o using aN with
  |l l=>
   induction f using aV with
   |nil=>trivial
   |cons v f=>
    induction f using aV with
    |cons _ _=>trivial
    |nil=>refine r.cons_e λu us a r=>r.nil_e ?_;have q:=xK (A:=A) X E a;show Lf c A (Vz c) ((li l v z.σ).bind λH I=>.k .n I) _ z;cases hp:li l v z.σ with|k w N=>rw[hp]at q;exact bS q (λu Z ⟨G,g,e⟩=>⟨G,g,e▸.none⟩) λH H e=>e|x _ _=>trivial|b=>trivial
  |_=>trivial
 rw[aG p];by_cases h2:C="dict.get"
 ·rw[aF h2];clear p;subst h2;induction o using aN with
  |l l=>
   induction f using aV with
   |nil=>trivial
   |cons k f=>
    induction f using aV with
    |nil=>trivial
    |cons d f=>
     induction f using aV with
     |cons _ _=>trivial
     |nil=>
      refine r.cons_e λu us a r=>r.cons_e λO us b r=>r.nil_e (E.loc_e λad J=>?_);show Lf c A (Vz c) (OE k d z.σ z.σ[l]?) _ z;refine SR.loc_e X J λo ob=>?_;induction o using b8 with
      |d P=>refine eV ob ?_;clear ob;intro ds m e Q R;refine Lf.ite λS=>iO F.slot_dict_get (vD e) F.entry_dict_get ?_ (F.args_dict_get_3 _ _ _);show bp _ _ (yU ad _>>=_) _ _ z.s;refine aA (Ci (by show A.units+1+2<cLine;exact#[79,M]) e Q R S a λo tk q=>?_);cases hf:iX P k with|some v=>rw[hf]at q;refine ba q ?_;clear q;intro u h q;obtain rfl:=h;exact aW (aY u rfl (ez.val X tk q))|none=>rw[hf]at q;obtain rfl:o=ah:=q;exact aA (wpAny_missed_other (J5 D X J) (aW (aY _ rfl (ez.val X tk b))))
      |_=>trivial
  |_=>trivial
 rw[aG h2];refine Lf.ite λT=>?_;clear p h2;refine dq T ?_;induction o using aN with
 |s t=>
  induction f using aV with
  |nil=>trivial
  |cons v1 f=>
   induction f using aV with
   |nil=>trivial
   |cons U f=>
    induction f using aV with
    |nil=>trivial
    |cons V f=>
     induction f using aV with
     |cons _ _=>trivial
     |nil=>
      induction v1 using aN with
      |s m=>
       induction U using aN with
       |i i=>
        induction V using aN with
        |i j=>refine Lf.ite λy=>r.cons_e λu us a r=>r.cons_e λO us b r=>r.cons_e λW us d r=>r.nil_e (E.str_e λt0=>a.str_e λt1=>b.int_e λt2=>d.int_e λt3=>?_);refine dp (br.mp y) λhl y=>?_;refine lD (bC y) λY K B L=>?_;refine ck (h_ K) λi h=>?_;clear b y;obtain rfl:=h;refine ck (h_ (Gk K B)) λj h=>?_;clear d y r;obtain rfl:=h;refine call_gives F.slot_str_find (w7 _ _ _) F.entry_str_find (F.args_str_find_4 _ _ _ _) (GD (eO t) (eO m) i j _ _ _ _ (nU.mp L)) ?_;rw[Kc t m Y i j (nU.mp B) (nU.mp L),cU,cU];induction fe m (dZ t i j) i using cX with|none=>exact ez.val X _ (.int _ _)|some k=>exact ez.val X _ (.int _ _)
        |_=>trivial
       |_=>trivial
      |_=>trivial
 |_=>trivial
end
end
section
open PySem PySem.W PyProof.Rows PySem.SeqAt
def IT (I:bh) (P:af->fK->Prop) (i:af) (h:dj):Prop:=∃o,h.get? I=aa o/\P i o
structure AR (c:Cfg) (A:cQ) (z₀:Zs) (I:bh) (src:au af) (xs:ae AV) (P:af->fK->Prop):Prop where
 next:∀(i:af) (x:AV) (ex:ae bh) (z:Zs) (Q:au aE->aM->Prop) (E:aE->aM->Prop),xs[i]?=aa x->fz c z->fN ex z₀.ρ z₀.s.heap z.ρ z.s.heap->dU src xs z.σ=ai->IT I P i z.s.heap->
  (∀v h' tk,Vz c z x v->IT I P (i+1) h'->gQ I z.s.heap h'->Q (aa v) {z.s with heap:=h',toks:=tk})->bp c.M A (yo (.ref I)) Q E z.s
 done:∀(ex:ae bh) (z:Zs) (i:af) (Q:au aE->aM->Prop) (E:aE->aM->Prop),xs.length<=i->fz c z->fN ex z₀.ρ z₀.s.heap z.ρ z.s.heap->dU src xs z.σ=ai->IT I P i z.s.heap->
  (∀h',oU I z.s.heap h'->Q ah {z.s with heap:=h'})->bp c.M A (yo (.ref I)) Q E z.s
 self:∀(i:af) (s:aM) (Q:aE->aM->Prop) (E:aE->aM->Prop),IT I P i s.heap->Q (.ref I) s->bp c.M A (rU (.ref I)) Q E s
 loose:∀i o,P i o->¬gK o
 own:src.isSome=ai->∀(i:af) (s:aM) (Q:dt->aM->Prop) (E:aE->aM->Prop) (t:bk) (v:aE),IT I P i s.heap->Q () s->bp c.M A (qm t (.ref I) v) Q E s
abbrev OY (T:aC) (v:aE) (i:af) (o:fK):Prop:=o.cls=.type T/\o.data=.fields #[v,.int i 0]
section
variable {c:Cfg} {A:cQ} {C:Zs} {I:bh}
theorem Mz (k:A.handled=ah) {l:bh} {n:af} {xs:ae AV} (q:C.ρ[n]?=aa l):AR c A C I (aa n) xs (OY "list_iterator" (.ref l)):=by
 have key:∀(ex:ae bh) (z:Zs),fz c z->fN ex C.ρ C.s.heap z.ρ z.s.heap->dU (aa n) xs z.σ=ai->∃d m,z.s.heap.get? l=aa (mz d m)/\lX c z xs d:=by intro ex z X st;show G9 xs z.σ[n]?=ai->_;refine SR.loc_e X (st.get _ _ q) λo ob=>?_;induction o using b8 with|l ws=>exactλh=>Gz h▸ob|_=>exactλh=>nomatch h
 refine⟨λi x ex z Q E w X st f t a=>?_,λex z i Q E y X st f t a=>?_,λi s Q E t a=>wpAny_pyIter_listiter t a,λi o p=>oh p.1 #[0],λJ i s Q E t v j a=>?_⟩
 ·refine d9 (key ex z X st f) λd m e r=>?_;refine ba (r.get w) λu B D=>?_;exact wpAny_pyNext_list_item t (iQ e) ((dX ..).trans B) λF G g=>a u F z.s.toks D G g
 ·refine d9 (key ex z X st f) λd m e r=>?_;exact wpAny_pyNext_list_end k t (iQ e) ((dX ..).trans (ml (r.length▸y))) a
 ·induction t using fL with
  |Tuple b H pos=>induction v using iu with|ref T=>exact qn j a|_=>exact aW a
  |List b pos=>induction v using iu with|ref T=>exact qn (elts:=[]) (x1:=0) (pos:=pos) j a|_=>exact aW a
  |_=>exact aW a
theorem Kd (f:A.handled=ah) {t:bh} {n:af} {xs:ae AV} {us:ae aE} (e:C.s.heap.get? t=aa (r5 us n)) (r:lX c C xs us):AR c A C I ah xs (OY "tuple_iterator" (.ref t)):=by
 refine⟨λi x ex z Q E g X st j b a=>?_,λex z i Q E k X st j b a=>?_,λi s Q E t a=>wpAny_pyIter_tupleiter t a,λi o p=>oh p.1 #[0],λh=>nomatch h⟩
 ·refine ba ((r.step st).get g) λu l m=>?_;exact wpAny_pyNext_tuple_item b (lF (st.fixed _ _ (.tup us n) e)) ((dX ..).trans l) λq v d=>a u q z.s.toks m v d
 ·exact wpAny_pyNext_tuple_end f b (lF (st.fixed _ _ (.tup us n) e)) ((dX ..).trans (ml (r.length▸k))) a
variable {i:af} {x:ae af} {v:AV}
theorem MA {a b:aq} {x:AV} (h:(lr a b)[i]?=aa x):i<(b-a).toNat/\x=.i (a+i):=by
 have c:i<(b-a).toNat:=by
  have:=(aP.mp h).1
  rwa [lr,az,y5]at this
 rw[lr,bE,List.getElem?_range c]at h;exact⟨c,(aw h).symm⟩
noncomputable def yF (a b:aq) (i:af):fK:={cls:=.type "range_iterator",data:=.fields #[rawInt (a+i),rawInt (((b-a).toNat:aq)-i),rawInt 1]}
theorem Ke (l:A.handled=ah) (a b:aq):AR c A C I ah (lr a b) (λi o=>o=yF a b i):=by
 have d:∀{i h},IT I (λi o=>o=yF a b i) i h->IsRangeIter h I (a+i) (((b-a).toNat:aq)-i) 1:=λ{i h} ⟨o,e,q⟩=>e.trans (aU aa (show o=yF a b i from q));refine⟨λi x ex z Q E k X st m t f=>?_,λex z i Q E n X st m t f=>?_,λi s Q E t f=>wpAny_pyIter_rangeiter (d t) f,λi o p=>oh (T:="range_iterator") ((show o=_ from p)▸rfl) #[0],λh=>nomatch h⟩
 ·refine dp (MA k) λv g=>?_;clear k;obtain rfl:=g;refine wpAny_pyNext_range_item (d t) (by omega) λr u j=>f _ r _ (.int _ _) (aY _ u ?_) j;show _=yF a b (i+1);unfold yF;rw[show a+((i+1):aq)=a+i+1 by omega,show((b-a).toNat:aq)-((i+1):aq)=((b-a).toNat:aq)-i-1 by omega]
 ·rw[lr,az,y5]at n;exact wpAny_pyNext_range_end l (d t) (by omega) f
theorem Kf (h:(x.map λk=>AV.s [k])[i]?=aa v):∃k,(eO x).cps[i]?=aa k/\v=.s [k]:=by rw[bE]at h;refine ba (bK.mp h) λk a b=>?_;exact aY k ((dX ..).trans a) b.symm
theorem EO (h:(x.map λk=>AV.s [k]).length<=i):(eO x).cps[i]?=ah:=by rw[az]at h;exact(dX ..).trans (ml h)
theorem Kg (g:A.handled=ah) (x:ae af) (t:Tok):AR c A C I ah (x.map λk=>.s [k]) (OY "str_ascii_iterator" (.str (eO x) t)):=by refine⟨λi v ex z Q E f X st j b a=>?_,λex z i Q E l X st j b a=>wpAny_pyNext_ascii_end g b (EO l) a,λi s Q E t a=>wpAny_pyIter_striter_ascii t a,λi o p=>oh p.1 #[0],λh=>nomatch h⟩;refine ba (Kf f) λk m d=>?_;clear f;obtain rfl:=d;exact wpAny_pyNext_ascii_item b m λn q e=>a _ n _ (.str [k] _) q e
theorem MB (g:A.handled=ah) (x:ae af) (t:Tok):AR c A C I ah (x.map λk=>.s [k]) (OY "str_iterator" (.str (eO x) t)):=by refine⟨λi v ex z Q E f X st j b a=>?_,λex z i Q E l X st j b a=>wpAny_pyNext_wide_end g b (EO l) a,λi s Q E t a=>wpAny_pyIter_striter_wide t a,λi o p=>oh p.1 #[0],λh=>nomatch h⟩;refine ba (Kf f) λk m d=>?_;clear f;obtain rfl:=d;exact wpAny_pyNext_wide_item b m λn q e=>a _ n _ (.str [k] _) q e
theorem Ho {z:Zs} {E:aE->aM->Prop} {u:aE} {xs:ae AV} {src:au af} (G:items v z.σ=aa (xs,src)) (i:A.handled=ah) (X:fz c z) (r:Vz c z v u) {Q:aE->aM->Prop}
  (j:∀(o:fK) (P:af->fK->Prop) (tk:Tok),AR c A z z.s.heap.objs.size src xs P->P 0 o->o.isFreed=aD->Q (.ref z.s.heap.objs.size) {z.s with heap:=z.s.heap.push o,toks:=tk}):bp c.M A (rU u) Q E z.s:=by
 revert G;have fin:∀{p:bD} {o:ae AV×au af},(if p=ai then aa o else ah)=aa (xs,src)->(p=ai->o.1=xs->o.2=src->bp c.M A (rU u) Q E z.s)->bp c.M A (rU u) Q E z.s:=λh k=>g_ h λH h=>k H (aU lU (aw h)) (aU Gg (aw h));induction v using aN with
 |t I=>refineλh=>fin h λB d f=>?_;clear fin h;subst d f;exact r.tup_e λt n J e r=>wpAny_pyIter_tuple (lF e) (j _ _ z.s.toks (Kd i e r) ⟨rfl,rfl⟩ rfl)
 |r a b=>
  refineλh=>fin h λK d f=>?_;clear fin h;subst d f;refine dp (br.mp (br.mp K).1) λC D=>?_;have C:=mn C;have D:=mn D;refine r.rng_e λg t x y e=>wpAny_pyIter_range e (small_one (by omega) (by omega) (by omega) (by omega)) (j _ _ z.s.toks (Ke i a b) ?_ rfl);have q:Builtin.Range.rangeSize a b 1=((b-a).toNat:aq):=by rw[rangeSize_one];split<;>omega
  rw[q];unfold yF;rw[show a+((0):aq)=a from Int.add_zero a,show((b-a).toNat:aq)-((0):aq)=((b-a).toNat:aq)from Int.sub_zero _]
 |s x=>
  refineλh=>fin h λB d f=>?_;clear fin h;subst d f;refine r.str_e λt=>?_;cases F:(eO x).cps.all (·<128)
  ·exact wpAny_pyIter_wide F (j _ _ z.s.toks (MB i x t) ⟨rfl,rfl⟩ rfl)
  ·exact wpAny_pyIter_ascii F (j _ _ z.s.toks (Kg i x t) ⟨rfl,rfl⟩ rfl)
 |l n=>refine r.loc_e λl k=>?_;show G8 n z.σ[n]?=aa (xs,src)->_;refine SR.loc_e X k λo ob=>?_;induction o using b8 with|l I=>refine d9 ob ?_;clear ob;intro J m e _;intro h;have h:=h;refine g_ h λB h=>?_;have d:=aU lU (aw h);have f:=aU Gg (aw h);subst d f;exact wpAny_pyIter_list (iQ e) (j _ _ z.s.toks (Mz i k) ⟨rfl,rfl⟩ rfl)|_=>exactλh=>bO h
 |_=>exactλh=>bO h
end
structure Fx where
 A:cQ
 l:ae gP
 e:gP
 k:KO
abbrev uC (a:KO) (x:cI):Prop:=a x=aa .cell\/a x=aa .free
structure l_ (c:Cfg) (X:Fx) (n:af):Prop where
 kind:X.e.scope.kind=.function
 kof:∀x,X.e.kindOf x=X.k x
 glob:X.e.globals=kH
 bt:X.e.builtins=builtinsNs
 cal:∀x,uC X.k x->∃b,X.e.cells.lookup x=aa b
 lbase:c.h₀.get? X.e.locals=ah
 hh:X.A.handled=ah
 dep:X.A.depth+n<980
 un:X.A.units+4*n<9000
 frames:X.A.frames=aa X.l
structure jy (c:Cfg) (X:Fx) (fr:AF) (z:Zs):Prop where
 locs:∃m,z.s.heap.Ns X.e.locals m/\∀x v,fr.v.lookup x=aa v->∃u,m (aZ x)=aa u/\Vz c z v u
 cells:∀x k,fr.c.lookup x=aa k->uC X.k (aZ x)->∃b,X.e.cells.lookup (aZ x)=aa b/\z.ρ[k]?=aa b
 lnew:X.e.locals∉z.ρ
structure Sy (c:Cfg) (z:Zs) (env:gP):Prop where
 nm:env.scope.kind≠.module
 fr:env.frame=aa env.locals
 new:env.locals∉z.ρ
 base:c.h₀.get? env.locals=ah
 obj:∃o,z.s.heap.get? env.locals=aa o/\¬gK o/\∀vs,o.data≠.fields vs
abbrev pC (c:Cfg) (l:ae gP) (z:Zs):Prop:=∀a∈l,Sy c z a
structure cM (c:Cfg) (X:Fx) (fr:AF) (n:af) (z:Zs):Prop where
 ok:l_ c X n
 sr:fz c z
 fr:jy c X fr z
 out:pC c X.l z
section
variable {c:Cfg} {X:Fx} {I:AF} {n:af} {z C:Zs} {ex:ae bh} {l:ae gP}
variable {m:af}
theorem l_.less (h:l_ c X n) (a:m<=n):l_ c X m:=⟨h.kind,h.kof,h.glob,h.bt,h.cal,h.lbase,h.hh,de (jF a _) h.dep,de (jF (jE 4 a) _) h.un,h.frames⟩
theorem l_.room (h:l_ c X n) k (a:k<=800):X.A.units+k<cLine:=de (ow (dI (eG _ _) (nO h.un)) a) #[0]
theorem cM.less (h:cM c X I n z) (a:m<=n):cM c X I m z:=⟨h.ok.less a,h.sr,h.fr,h.out⟩
theorem Ns.at {h b:dj} {a:bh} {m:cI->au aE} (x:h.Ns a m) (k:∀o,h.get? a=aa o->b.get? a=aa o):b.Ns a m:=kN x λo c d e r=>mM o c d (k o e) r
theorem jy.step (f:jy c X I z) (st:fN ex z.ρ z.s.heap C.ρ C.s.heap) (i:X.e.locals∉ex):jy c X I C:=
 ba f.locs λm g j=>⟨aY m (Ns.at g λo e=>st.ext _ o f.lnew i e) (λx v e=>ba (j x v e) λu a d=>aY u a (d.step st)),λx k e q=>(f.cells x k e q).elim λb ⟨a,d⟩=>aY b a (st.get _ _ d),
  g.elim λh q=>q.elim λh q=>q.elim λh q=>st.new_not q.1 f.lnew⟩
theorem pC.step (f:pC c l z) (st:fN ex z.ρ z.s.heap C.ρ C.s.heap) (d:∀e∈l,e.locals∉ex):pC c l C:=λe a=>
 have q:=f e a
 ba q.obj λo b g=>⟨q.nm,q.fr,st.new_not b q.new,q.base,o,st.ext _ o q.new (d e a) b,g⟩
theorem cM.step (h:cM c X I n z) (g:Good c [] z C):cM c X I n C:=⟨h.ok,g.sr,h.fr.step g.step (λq=>nomatch q),h.out.step g.step λa a q=>nomatch q⟩
theorem jy.bare (f:jy c X I z):jy c X ⟨[],I.c⟩ z:=f.locs.elim λm q=>⟨aY m q.1 (λa a e=>bO e),f.cells,f.lnew⟩
theorem jy.sub {a:AF} (f:jy c X I z) (b:a.c=I.c) (d:∀y v,a.v.lookup y=aa v->I.v.lookup y=aa v):jy c X a z:=f.locs.elim λm q=>⟨aY m q.1 (λx v e=>q.2 x v (d x v e)),λx k e=>f.cells x k (b▸e),f.lnew⟩
end
structure gL (c:Cfg):Prop where
 glob:∀x v,c.P.g x=aa v->∃mg mb,c.h₀.Ns kH mg/\c.h₀.Ns builtinsNs mb/\∃u,(mg (aZ x)=aa u\/(mg (aZ x)=ah/\mb (aZ x)=aa u))/\VR c [] c.h₀ v u
 lim:c.h₀.NoLimit
 sm:∃o,c.h₀.get? jo=aa o
 inK:c.K.In c.h₀
 cls:∀k C,c.ca k=aa C->c.P.x k=aD->plainGet c.K C ""=ai/\hasDictIn c.K C=ai/\v7 c.K (.ref C) "__setattr__"=aa (aa (.builtin "object.__setattr__"))/\plainOver c.K C=ai
 fld:∀k C x,c.ca k=aa C->(c.P.s k).contains x=ai->c.P.x k=aD/\v7 c.K (.ref C) (aZ x)=aa ah
 meth:∀k C x f,c.ca k=aa C->c.P.m k x=aa f->∃a,c.fa f=aa a/\v7 c.K (.ref C) (aZ x)=aa (aa (.ref a))/\typeIn c.K (.ref a)=aa (.type "function")
 make:∀k C f,c.ca k=aa C->c.P.x k=aD->c.P.m k "__init__"=aa f->makesIn c.K C=ai
 keep:∀k C,c.ca k=aa C->keepIn c.K (.ref C)=ai
 sorts:∀(A:cQ) (z:Zs) (vs:ae AV) (us:ae aE),A.handled=ah->A.units+20<cLine->fz c z->lX c z vs us->Lf c A (Vz c) (builtin "sorted" vs z.σ) (call (.builtin "sorted") us) z
 fns:∀f a,c.fa f=aa a->∃fd afd body,c.h₀.get? a=aa (uA fd)/\tL c f fd afd body
inductive EX (base:dj) (l:ae gP) (e:bh) (C:aE) (L:bh) (h:dj):Prop
 |made (hs:base.StaysIn h) (hn:base.get? e=ah) (hf:h.FunFrames base l) (he:∃oe vs a0,h.get? e=aa oe/\oe.cls=C/\oe.data=.fields vs/\vs[0]?=aa a0/\vs[1]?=aa .none)
 |held (a0:aE) (hh:qo base l e C a0 L h)
 |fly (a0:aE) (hf:yp base l e C a0 h)
structure xh (c:Cfg) (l:ae gP) (kl:ae gP) (z:Zs) (ρ':ae bh) (σ':St) (base:dj) (s':aM):Prop where
 sr:SR c ρ' σ' base
 pre:∃ns,ρ'=z.ρ++ns/\∀a∈ns,z.s.heap.get? a=ah
 keep:∀a o,a∉z.ρ->(∀e∈l,a≠e.locals)->z.s.heap.get? a=aa o->base.get? a=aa o
 fixed:∀a o,gK o->z.s.heap.get? a=aa o->base.get? a=aa o
 ns:∀e∈kl,∀m,z.s.heap.Ns e.locals m->s'.heap.Ns e.locals m
 gens:s'.gens=z.s.gens
 drawn:s'.drawn=z.s.drawn
 os:s'.os=z.s.os
noncomputable abbrev EP (X:Fx):bD->ae bh
 |false=>[]
 |true=>[X.e.locals]
noncomputable abbrev Sz (l:ae gP):bD->ae gP
 |false=>l
 |true=>l.tail
abbrev Vc (X:Fx) (base:dj) (e C:bh) (h:dj):bD->Prop
 |false=>∃a0,yp base X.l e (.ref C) a0 h
 |true=>EX base X.l e (.ref C) X.e.locals h
def oG (c:Cfg) (X:Fx) (b:bD) (z:Zs) (k:aC) (a:St) (v:aE) (f:aM):Prop:=∃e base d C,v=.ref e/\c.ca k=aa C/\Vc X base e C f.heap b/\xh c X.l (Sz X.l b) z d a base f
def vF (c:Cfg) (ex:ae bh) {α β:Type} (V:nj α β) (z:Zs) (a:α) (d:St) (b:β) (f:aM):Prop:=∃e,Good c ex z ⟨e,d,f⟩/\V ⟨e,d,f⟩ a b
def Ev (c:Cfg) (X:Fx) (b:bD) {α β:Type} (V:nj α β) (r:R α) (m:eR β) (z:Zs):Prop:=match r with|.k a σ'=>bp c.M X.A m (vF c (EP X b) V z a σ') pW z.s|.x k σ'=>bp c.M X.A m (λd d=>False) (oG c X b z k σ') z.s|.b=>True
structure sA (X:Fx):Prop where
 l:∃outer,X.l=X.e::outer/\∀e∈outer,e.locals≠X.e.locals
 fr:X.e.frame=aa X.e.locals
section
variable {c:Cfg} {X:Fx} {fr:AF} {n:af} {z I:Zs} {ex:ae bh} {l:ae gP} {b:bD} {α β γ δ:Type} {V:nj α β} {U:nj γ δ} {r:R α} {m m':eR β} {f:α->St->R γ} {g:β->eR δ} {J:St} {s':aM} {v:aE} {k:aC}
theorem vF.after {a:α} {b:β} (g:Good c ex z I) (r:vF c ex V I a J b s'):vF c ex V z a J b s':=r.elim λd q=>aY d (g.trans q.1) q.2
theorem xh.after {d:ae gP} {b:ae bh} {base:dj} (t:xh c l d I b J base s') (g:Good c ex z I) (w:∀a∈ex,∃e∈l,a=e.locals) (j:∀e∈d,e.locals∉z.ρ/\e.locals∉ex):xh c l d z b J base s':=by
 refine ba g.step.pre λx p k=>?_;refine ba t.pre λy q f=>?_;refine⟨t.sr,aY (x++y) (by rw[q,p,aj]) (λa h=>(b7.mp h).elim (k a) λh=>?_),λa o n u e=>t.keep a o (λr=>?_) u (g.step.ext a o n (λr=>(w a r).elim λe q=>u e q.1 q.2) e),
  λa o v e=>t.fixed a o v (g.step.fixed a o v e),λe i m f=>t.ns e i m (Ns.at f λo q=>g.step.ext _ o (j e i).1 (j e i).2 q),t.gens.trans g.gens,t.drawn.trans g.drawn,t.os.trans g.os⟩
 ·cases q:z.s.heap.get? a with|none=>rfl|some o=>exact(g.step.dom a o q).elim λB A=>gF (f a h) A
 ·rw[p]at r;exact(b7.mp r).elim n λr=>gF (k a r) e
theorem Cm (e:gP) (h:e∈Sz l b):e∈l:=by induction b using b_ with|false=>exact h|true=>exact List.mem_of_mem_tail h
theorem oG.after (H:pC c X.l z) (g:Good c [] z I) (t:oG c X b I k J v s'):oG c X b z k J v s':=by refine lE t ?_;clear t;intro e base a C d f h t;exact pn e base a C d f h (t.after g (λj q=>nomatch q) λe i=>⟨(H e (Cm e i)).new,λq=>nomatch q⟩)
theorem oG.afterS (T:sA X) (H:pC c X.l z) (g:Good c [X.e.locals] z I) (t:oG c X ai I k J v s'):oG c X ai z k J v s':=by refine lE t ?_;clear t;intro e base b C h i j t;refine ba T.l λo f m=>?_;refine pn e base b C h i j (t.after g (λa q=>aY X.e (f▸aH) (aL.mp q)) λe d=>⟨(H e (Cm e d)).new,λq=>?_⟩);refine m e ?_ (aL.mp q);rw[show Sz X.l ai=o by rw[f];rfl]at d;exact d
theorem oG.toS (t:oG c X aD z k J v s'):oG c X ai z k J v s':=by refine lE t ?_;clear t;intro e base b C f g d a;refine ck d λa0 h=>?_;exact⟨e,base,b,C,f,g,.fly a0 h,a.sr,a.pre,a.keep,a.fixed,λe i=>a.ns e (Cm e i),a.gens,a.drawn,a.os⟩
theorem Ev.of_lf (h:Lf c X.A V r m z):Ev c X aD V r m z:=by induction r using cO with|x _ _=>exact h.elim|_=>exact h
theorem Ev.of_eq (e:m=m') (h:Ev c X b V r m' z):Ev c X b V r m z:=e▸h
theorem Ev.lift (k:∀Q E,bp c.M X.A m Q E z.s->bp c.M X.A m' Q E z.s) (h:Ev c X b V r m z):Ev c X b V r m' z:=by induction r using cO with|k _ _=>exact k _ _ h|x _ _=>exact k _ _ h|b=>trivial
theorem Ev.pure (x:fz c z) {a:α} {d:β} (h:V z a d):Ev c X b V (.k a z.σ) (uS d) z:=aW (aY z.ρ (.refl x) h)
theorem Ev.cont {d:Zs} (H:pC c X.l z) (g:Good c [] z d) {r:R γ} {m:eR δ} (h:Ev c X b U r m d):
  match(motive:=R γ->Prop) r with
  |.k a J=>bp c.M X.A m (vF c (EP X b) U z a J) pW d.s
  |.x k J=>bp c.M X.A m (λf f=>False) (oG c X b z k J) d.s
  |.b=>True:=by
 induction r using cO with|k _ _=>exact bS h (λf f q=>q.after g.wide) λf f e=>e|x _ _=>exact bS h (λf f q=>q) λf f t=>t.after H g|b=>trivial
theorem Ev.bindR {P:aM->Prop} {m':eR δ} (rule:∀Q E,bp c.M X.A m (λo i=>P i/\bp c.M X.A (g o) Q E i) E z.s->bp c.M X.A m' Q E z.s) (H:cM c X fr n z) (h:Ev c X aD V r m z) (u:∀a o I,Good c [] z I->cM c X fr n I->V I a o->f a I.σ≠.b->P I.s)
  (k:∀a o I,Good c [] z I->cM c X fr n I->V I a o->Ev c X b U (f a I.σ) (g o) I):Ev c X b U (r.bind f) m' z:=by
 induction r using cO with
 |x _ _=>trivial
 |b=>trivial
 |k a j=>have key:=λ(o:β) (d:ae bh) (i:aM) (l:Good c [] z ⟨d,j,i⟩) v=>(k a o ⟨d,j,i⟩ l (H.step l) v).cont H.out l;have p:=λ(o:β) (d:ae bh) (i:aM) (l:Good c [] z ⟨d,j,i⟩) v=>u a o ⟨d,j,i⟩ l (H.step l) v;show Ev c X b U (f a j) _ z;revert key p;show(∀(o:β) (d:ae bh) (i:aM) (l:Good c [] z ⟨d,j,i⟩) (_:V ⟨d,j,i⟩ a o),match f a j with|.k a J=>_|.x k J=>_|.b=>True)->(∀(o:β) (d:ae bh) (i:aM) (l:Good c [] z ⟨d,j,i⟩) (_:V ⟨d,j,i⟩ a o),f a j≠.b->P i)->_;induction f a j using cO with|b=>exactλt t=>trivial|k w J=>exactλkey p=>rule _ _ (bS h (λo i q=>q.elim λd q=>⟨p o d i q.1 q.2 (λq=>nomatch q),key o d i q.1 q.2⟩) λt t e=>e.elim)|x y J=>exactλkey p=>rule _ _ (bS h (λo i q=>q.elim λd q=>⟨p o d i q.1 q.2 (λq=>nomatch q),key o d i q.1 q.2⟩) λt t e=>e.elim)
theorem Ev.bind (H:cM c X fr n z) (h:Ev c X aD V r m z) (k:∀a i I,Good c [] z I->cM c X fr n I->V I a i->Ev c X b U (f a I.σ) (g i) I):Ev c X b U (r.bind f) (m>>=g) z:=
 Ev.bindR (P:=λd=>True) (λd d h=>aA (bS h (λd d q=>q.2) λd d e=>e)) H h (λd d d d d d d=>trivial) k
theorem Ev.bindX {p:bD} (H:cM c X fr n z) (h:Ev c X aD V r m z) (k:∀a i I,Good c [] z I->cM c X fr n I->V I a i->Ev c X ai U (f a I.σ) (g i) I):Ev c X ai U ((gc p r).bindX f) (m>>=g) z:=by
 induction r using cO with
 |x j J=>induction p using b_ with|false=>trivial|true=>exact aA (bS h (λe e q=>q.elim) λe e t=>t.toS)
 |b=>cases p<;>trivial
 |k a d=>refine(show(gc p (R.k a d)).bindX f=(R.k a d).bind f by cases p<;>rfl)▸Ev.bind H h k
theorem Ev.opts {o:au α} {f:α->St->R γ} {m:eR δ} (k:∀a,o=aa a->Ev c X b U (f a z.σ) m z):Ev c X b U ((opt z.σ o).bind f) m z:=by induction o using cX with|none=>trivial|some a=>exact k a rfl
theorem Ev.ite {p:Prop} [uQ p] {r:R α} (k:p->Ev c X b V r m z):Ev c X b V (if p then r else .b) m z:=by
 by_cases h:p
 ·rw[aF h];exact k h
 ·rw[aG h];trivial
theorem Ev.map {f:α->γ} {U:nj γ β} (h:Ev c X b V r m z) (g:∀z a u,V z a u->U z (f a) u):Ev c X b U (r.bind λa σ=>.k (f a) σ) m z:=by induction r using cO with|k a J=>exact bS h (λu s' q=>q.elim λd q=>aY d q.1 (g _ _ _ q.2)) λi i e=>e|x _ _=>trivial|b=>trivial
end
abbrev ig (c:Cfg) (n:af):Prop:=∀(X:Fx) (fr:AF) (z:Zs) (m:af) (ast:bk) (e:IE),dW m X.k ast=aa e->cM c X fr n z->Ev c X aD (Vz c) (bg c.P n fr e z.σ) (eval ast X.e) z
abbrev vG (c:Cfg) (n:af):Prop:=∀(X:Fx) (fr:AF) (z:Zs) (m:af) (ast:bk) (e:IE),dW m X.k ast=aa e->cM c X fr n z->Ev c X aD Bb (er c.P n fr e z.σ) (isTrue ast X.e (eval ast X.e)) z
abbrev D6 (c:Cfg) (n:af):Prop:=∀(X:Fx) (fr:AF) (z:Zs) (m:af) (op:BoolOp) (a:ae bk) (b:ae IE),fJ (dW m X.k) a=aa b->cM c X fr n z->Ev c X aD Bb (rm c.P n fr op b z.σ) (allTrue op a X.e) z
abbrev Iy (c:Cfg) (n:af):Prop:=∀(X:Fx) (fr:AF) (z:Zs) (m:af) (pos:Pos) (op:BoolOp) (a:ae bk) (b:ae IE),fJ (dW m X.k) a=aa b->cM c X fr n z->Ev c X aD (Vz c) (tJ c.P n fr op b z.σ) (boolOp pos op (evalEach a X.e)) z
abbrev wB (c:Cfg) (n:af):Prop:=∀(X:Fx) (fr:AF) (z:Zs) (m:af) (pos:Pos) (a:ae bk) (b:ae IE),fJ (dW m X.k) a=aa b->cM c X fr n z->Ev c X aD (lX c) (ie c.P n fr b z.σ) (spliced (rV pos (lV a X.e))) z
abbrev Kh (c:Cfg) (n:af):Prop:=∀(X:Fx) (fr:AF) (z:Zs) (m:af) (ast:au bk) (e:au IE),zD (dW m X.k) ast=aa e->cM c X fr n z->Ev c X aD (Pz c) (vq c.P n fr e z.σ) (valueOrNone (evalOpt ast X.e)) z
section
variable {c:Cfg} {X:Fx} {C:AF} {n m:af} {z:Zs} {E:aE->aM->Prop}
theorem Hp (B:gL c) {x:aC} {v:AV} (j:c.P.g x=aa v) (H:fz c z) (ok:l_ c X n) {A:cQ} {Q:aE->aM->Prop} (k:∀u,Vz c z v u->Q u z.s):bp c.M A (loadGlobal X.e (aZ x)) Q E z.s:=by
 refine El (B.glob x v j) λl m p q u b r=>?_;have f:z.s.heap.Ns X.e.globals l:=by rw[ok.glob];exact Ns.at p λo e=>H.base _ o e
 have t:z.s.heap.Ns X.e.builtins m:=by rw[ok.bt];exact Ns.at q λo e=>H.base _ o e
 have h:=k u (r.map (λi i e=>bO e) λa o i e=>H.base a o e);rcases b with b|⟨b,d⟩
 ·exact Calls.loadGlobal_global f b h
 ·exact Calls.loadGlobal_builtin f b t d h
theorem Hq (H:cM c X C n z) {x:aC} {v:AV} (f:uC X.k (aZ x)) (g:j9 C x z.σ=aa v):∃b u,X.e.cells.lookup (aZ x)=aa b/\z.s.heap.IsCell b (aa u)/\Vz c z v u:=by refine ob g λk i j=>?_;refine ba (H.fr.cells x k i f) λb l m=>?_;revert j;refine SR.loc_e H.sr m λo r=>?_;induction o using b8 with|c w=>refine ba r ?_;clear r;intro u p a;intro h;have h:=h;subst h;refine ba a ?_;clear a;intro u d a;obtain rfl:=d;exact fD b u l p a|_=>exactλh=>bO h
theorem EQ {env:gP} {name:cI} (b:env.scope.kind=.function) (a:env.kindOf name=aa .globalImplicit):loadName env name=loadGlobal env name:=by unfold loadName Env.blockKind;rewrite[b,a];rfl
theorem PS (B:gL c) (H:cM c X C n z) {id:cI} {x:aC} {e:IE} (j:nm id=aa x) (hd:(id==("__classdict__":cI))=aD) (d:JV x (X.k id)=aa e):Ev c X aD (Vz c) (bg c.P (n+1) C e z.σ) (loadName X.e id) z:=by
 obtain rfl:=pV j;have a:=H.ok.kof (aZ x);cases q:X.k (aZ x)with
 |none=>rw[q]at d;exact bO d
 |some k=>rw[q]at d a;induction k using PySem.NameKind.casesOn with|«local»=>refine jN d (Ev.of_lf (Lf.oo λv f=>?_));refine ba H.fr.locs λm g h=>?_;refine ba (h x v f) λu i l=>?_;exact qq H.ok.kind a g i (ez.here H.sr l)|cell=>refine jN d (Ev.of_lf (Lf.oo λv f=>?_));refine eV (Hq H (.inl q) f) λb u g h i=>?_;exact wpAny_loadName_cell H.ok.kind a g h (ez.here H.sr i)|free=>refine jN d (Ev.of_lf (Lf.oo λv f=>?_));refine eV (Hq H (.inr q) f) λb u g h i=>?_;exact wpAny_loadName_free H.ok.kind a g h (ez.here H.sr i) hd|globalImplicit=>refine jN d (Ev.of_lf (Lf.oo λv f=>?_));rw[EQ H.ok.kind a];exact Hp B f H.sr H.ok λu r=>ez.here H.sr r|globalExplicit=>exact bO d
theorem MC {k:Const} {v:AV} (h:JU k=aa v) (x:fz c z):bp c.M X.A (constValue X.e k) (ez c (Vz c) z v z.σ) pW z.s:=by cases k with|none=>exact jN h (aW (ez.here x .none))|bool b=>exact jN h (aW (ez.here x (.bool b)))|int i=>exact jN h (wpAny_mkInt (ez.val x _ (.int _ _)))|str s=>exact jN h (wpAny_mkText (ez.val x _ (.str s.cps.toList _)))|_=>exact bO h
noncomputable def xM (e:bk):bD:=![22,26,7,13,9].elem e.ctorIdx
theorem iR {ast:bk} {e:IE} (h:dW m X.k ast=aa e):xM ast=ai:=by refine cV (vz h) λm' a h a=>?_;cases ast<;>first|rfl|exact bO h
variable {J U:Type} {r:R J} {b:bD} {e:bk} {V:nj J U} {k:eR U} {I:ae aE}
theorem uD (h:xM e=ai) (op:qb):behindInMarks op e=aD:=by cases e<;>first|rfl|exact ff h|(cases op<;>rfl)
theorem nk {p q:bD} {P:Prop} (h:(p&&q)=ai) (k:p=ai->q=ai->P):P:=k (br.mp h).1 (br.mp h).2
abbrev gp (a:ig c n) {ast:bk} {e:IE} (t:dW m X.k ast=aa e) (H:cM c X C n z):Ev c X aD (Vz c) (bg c.P n C e z.σ) (eval ast X.e) z:=a X C z m ast e t H
theorem Ev.hold (h:Ev c X b V r k z):Ev c X b V r (jL I k) z:=h.lift λa a=>dk
theorem Ev.stand {pos:Pos} (h:Ev c X b V r k z):Ev c X b V r (do fC pos;k) z:=h.lift λa a q=>aA (dz q)
theorem Ev.oper {V:nj J aE} {k:eR aE} (h:Ev c X b V r k z):Ev c X b V r (operate I k) z:=h.lift λa a=>q_
theorem Vd (j:ig c n) {l r:bk} {op:jI} {pos:Pos} {a b:IE} (s:dW m X.k l=aa a) (t:dW m X.k r=aa b) (H:cM c X C n z):Ev c X aD (Vz c) ((bg c.P n C a z.σ).bind λx σ=>(bg c.P n C b σ).bind λy σ=>binop op x y σ) (eval (.BinOp l op r pos) X.e) z:=
 .of_eq (arm_eval_BinOp ..) ((gp j s H).bind H λx u o p d f=>(gp j t d).hold.bind d λy v q g h i=>.stand (.oper (.of_lf (Ms h.sr (f.step g.step) i))))
theorem Ve (o:ig c n) {x:bk} {pos:Pos} {a:IE} (p:dW m X.k x=aa a) (H:cM c X C n z):Ev c X aD (Vz c) ((bg c.P n C a z.σ).bind λx σ=>(opt σ (truth x σ)).bind λb σ=>.k (.b (!b)) σ) (eval (.UnaryOp .Not x pos) X.e) z:=by refine .of_eq (arm_eval_UnaryOp ..) ((gp o p H).bind H λx u d l f g=>.stand (.hold ?_));refine .of_lf ?_;have q:=zI (A:=X.A) f.sr g;cases h:truth x d.σ with|none=>trivial|some b=>rw[h]at q;exact not_value (bS q (λr s' i=>i.elim λj i=>aY j i.1 ((show r=b from i.2)▸.bool _)) λs s e=>e)
theorem Vf (j:ig c n) {x:bk} {pos:Pos} {a:IE} (l:dW m X.k x=aa a) (H:cM c X C n z):Ev c X aD (Vz c) ((bg c.P n C a z.σ).bind λx σ=>(match x with|.i i=>.k (.i (-i)) σ|_=>.b)) (eval (.UnaryOp .USub x pos) X.e) z:=by refine .of_eq (arm_eval_UnaryOp ..) ((gp j l H).bind H λx u g h d f=>.stand (.hold ?_));induction x using aN with|i i=>exact f.int_e λt=>PyProof.Rows.neg_int (aY _ (.tok d.sr _) (.int _ _))|_=>trivial
theorem Vg (B:gL c) (j:ig c n) {l r:bk} {op:qb} {pos:Pos} {a b:IE} (t:dW m X.k l=aa a) (o:dW m X.k r=aa b) (H:cM c X C n z):
  Ev c X aD (Vz c) ((bg c.P n C a z.σ).bind λx σ=>(bg c.P n C b σ).bind λy σ=>(opt σ (dG op x y σ)).bind λr σ=>.k (.b r) σ) (eval (.Compare l [op] [r] pos) X.e) z:=by
 refine .of_eq (arm_eval_Compare ..) ((gp j t H).bind H λx u p q d f=>?_);rw[m_ [op] [r] _ (uD (iR o) op)];exact(gp j o d).hold.bind d λy v s g h i=>.stand (.oper ((Ev.of_lf (vE B.sm (H.ok.room 7 #[0]) h.sr (f.step g.step) i)).map λz a u e=>(show u=_ from e)▸.bool a))
theorem Ug (B:gL c) (I:ig c n) {l r p:bk} {op f:qb} {pos:Pos} {a b d:IE} (Q:dW m X.k l=aa a) (R:dW m X.k r=aa b) (J:dW m X.k p=aa d) (H:cM c X C n z):
  Ev c X aD (Vz c) ((bg c.P n C a z.σ).bind λx σ=>(bg c.P n C b σ).bind λy σ=>(opt σ (dG op x y σ)).bind λr σ=>if r then(bg c.P n C d σ).bind λz σ=>(opt σ (dG f y z σ)).bind λp σ=>.k (.b p) σ else .k (.b aD) σ) (eval (.Compare l [op,f] [r,p] pos) X.e) z:=by
 refine .of_eq (arm_eval_Compare ..) ((gp I Q H).bind H λx u K L i s=>?_);rw[m_ [op,f] [r,p] _ (uD (iR J) f)];show Ev _ _ _ _ _ (do
  let t<-jL [u] (eval r X.e)
  fC pos
  let cc<-jL [u,t] (kI op u t)
  release [u,t] [cc]
  if<-jL [cc,t] (yk cc)then compareChain pos t [f] [eval p X.e]else pure cc) _
 refine(gp I R i).hold.bind i λy v M A j o=>.stand ((Ev.of_lf (vE B.sm (H.ok.room 7 #[0]) j.sr (s.step A.step) o)).hold.bind j λq w N D g e=>?_);obtain rfl:w=.bool q:=e;refine Ev.lift (λS S h=>aA (rf (aA (dk (jt h))))) ?_;induction q using b_ with|false=>exact .pure g.sr (.bool aD)|true=>exact(gp I J g).hold.bind g λT U O E F G=>.stand (.oper ((Ev.of_lf (vE B.sm (H.ok.room 7 #[0]) F.sr ((o.step D.step).step E.step) G)).map λz a u e=>(show u=_ from e)▸.bool a))
theorem Vh (g:ig c n) (p:vG c n) {t a b:bk} {pos:Pos} {f h i:IE} (r:dW m X.k t=aa f) (s:dW m X.k a=aa h) (u:dW m X.k b=aa i) (H:cM c X C n z):
  Ev c X aD (Vz c) ((er c.P n C f z.σ).bind λq σ=>if q then bg c.P n C h σ else bg c.P n C i σ) (eval (.IfExp t a b pos) X.e) z:=by
 refine .of_eq (arm_eval_IfExp ..) (Ev.bind H (p X C z m t f r H) λq j l o d e=>?_);obtain rfl:j=q:=e;induction j using b_ with|true=>exact gp g s d|false=>exact gp g u d
theorem Vi (i:wB c n) {es:ae bk} {k:af} {pos:Pos} {is:ae IE} (j:fJ (dW m X.k) es=aa is) (H:cM c X C n z):Ev c X aD (Vz c) ((ie c.P n C is z.σ).bind λI σ=>if bV I then .k (.t I) σ else .b) (eval (.Tuple es k pos) X.e) z:=
 .of_eq (arm_eval_Tuple ..) (.stand (Ev.bind H (i X C z m pos es is j H) λI l d h f a=>.of_lf (Lf.ite λg=>wpAny_newTuple (tu f.sr d.s.toks a) (a.length▸jh g))))
theorem Uh (i:wB c n) {es:ae bk} {pos:Pos} {is:ae IE} (j:fJ (dW m X.k) es=aa is) (H:cM c X C n z):Ev c X aD (Vz c) ((ie c.P n C is z.σ).bind λI σ=>if bV I then alloc σ (.l I)else .b) (eval (.List es pos) X.e) z:=
 .of_eq (arm_eval_List ..) (.stand (Ev.bind H (i X C z m pos es is j H) λI o d h f a=>.of_lf (Lf.ite λg=>r8 (zH f.sr d.s.toks a) (a.length▸jh g))))
theorem ER {slice base:bk} {o i:aE} (b:∃I,subscripted slice aD o i=operate I (tE o i)):Gm c X.A z.s o i (do let r<-subscripted slice (<-getitemInPython o) o i;letTemporaryGo base o r;pure r):=by intro T id Q E d f h;refine ck b ?_;clear b;intro I b;refine aA ?_;rw[getitemInPython_of_ne d.not_modules];refine aA (nv d f ?_);refine aW (aA ?_);rw[b];exact q_ (bS h (λr e a=>aA (w8 (aW a))) λg g x=>x)
theorem Vj (j:ig c n) {a i:bk} {pos:Pos} {l o:IE} (t:dW m X.k a=aa l) (p:dW m X.k i=aa o) (H:cM c X C n z):Ev c X aD (Vz c) ((bg c.P n C l z.σ).bind λx σ=>(bg c.P n C o σ).bind λy σ=>opt σ (du x y σ)) (eval (.Subscript a i pos) X.e) z:=
 .of_eq (yq ..) ((gp j t H).bind H λx u q r b d=>(gp j p b).hold.bind b λy v s f g h=>.stand (.of_lf (Hl (ER (by have:=iR p;cases i<;>first|exact⟨_,rfl⟩|exact ff this)) (H.ok.room 7 #[0]) g.sr (d.step f.step) h)))
theorem R.bind_pair {γ:Type} {f:St->R U} {g:J->U->St->R γ}:(r.bind λa σ=>(f σ).bind λb σ=>g a b σ)=(r.bind λa σ=>(f σ).bind λb σ=>.k (a,b) σ).bind λp σ=>g p.1 p.2 σ:=by induction r using cO with|k a σ=>show(f σ).bind _=((f σ).bind _).bind _;cases f σ<;>rfl|_=>rfl
abbrev V4 (c:Cfg):nj (au AV×au AV) aE:=λz p u=>∃sl y a,u=.ref sl/\z.s.heap.get? sl=aa (xI y a)/\Pz c z p.1 y/\Pz c z p.2 a
theorem SA (io:Kh c n) {lo j:au bk} {p:Pos} {o q:au IE} (t:zD (dW m X.k) lo=aa o) (u:zD (dW m X.k) j=aa q) (H:cM c X C n z):
  Ev c X aD (V4 c) ((vq c.P n C o z.σ).bind λl σ=>(vq c.P n C q σ).bind λh σ=>.k (l,h) σ) (eval (.Slice lo j ah p) X.e) z:=
 .of_eq (arm_eval_Slice ..) (Ev.bind H (io X C z m lo o t H) λl y b r a d=>Ev.bind a (Ev.hold (io X C b m j q u a)) λh v s f g i=>Ev.of_lf (show bp c.M X.A _ _ _ _ from
  aA (dk (aW (ju ⟨_,.push g.sr _ _,_,y,v,rfl,dF _ rfl,(d.step f.step).step (ex:=[]) (.of_keeps (kA _)),i.step (ex:=[]) (.of_keeps (kA _))⟩)))))
theorem ru (h:xM e=ai) (rest:ae bk):lV (e::rest) X.e=(aD,eval e X.e)::lV rest X.e:=by cases e<;>first|rfl|exact ff h
theorem Vk (B:ig c n) (io:Kh c n) {a:bk} {lo o:au bk} {pos p:Pos} {q:IE} {r s:au IE} (D:dW m X.k a=aa q) (E:zD (dW m X.k) lo=aa r) (F:zD (dW m X.k) o=aa s) (H:cM c X C n z):
  Ev c X aD (Vz c) ((bg c.P n C q z.σ).bind λx σ=>(vq c.P n C r σ).bind λl σ=>(vq c.P n C s σ).bind λh σ=>slice x l h σ) (eval (.Subscript a (.Slice lo o ah p) pos) X.e) z:=by
 refine .of_eq (yq ..) ((gp B D H).bind H λx u t v b f=>?_);rw[R.bind_pair];refine(SA io E F b).hold.bind b λp w A g i d=>?_;refine zr d ?_;clear d;intro sl y J j e G I;refine dq j ?_;exact .stand (.of_lf (Mv (ER ⟨_,rfl⟩) e i.sr (f.step g.step) G I))
theorem Ui (d:ig c n):Kh c (n+1):=by intro X C z m ast e h H;induction ast using cX with|none=>refine dH (aw h) ?_;exact Ev.pure H.sr .none|some a=>refine ob h λg f h=>?_;refine dH (aw h) ?_;exact Ev.map (gp d f (H.less (eM n))) λb b b r=>.some r
theorem Iz (x:eR aE) (rest:ae (bD×eR aE)):spliced ((aD,x)::rest)=(do let v<-x;let I<-jL [v] (spliced rest);pure ([v]++I)):=by rw[spliced];simp only[nP,qZ,pure_bind]
theorem SD (q:ig c n) (k:wB c n):wB c (n+1):=by intro X C z m pos d t h H;have H:=H.less (eM n);induction d using aV with|nil=>refine dH (aw h) ?_;exact Ev.pure H.sr .nil|cons a rest=>refine ob h λw l h=>ob h λr s h=>?_;refine dH (aw h) ?_;rw[ru (iR l)];exact .of_eq (Iz ..) ((gp q l H).bind H λv u e o b f=>Ev.bind b (Ev.hold (k X C e m pos rest r s b)) λI x p g i j=>.pure i.sr (.cons (f.step g.step) j))
end
section
variable {c:Cfg} {X:Fx} {C:AF} {n m:af} {z:Zs}
set_option backward.match.sparseCases true in
theorem SE (w:ig c n) (l:Iy c n):Iy c (n+1):=by
 intro X C z m pos op o F h H;have H:=H.less (eM n);induction o using aV with
 |nil=>refine dH (aw h) ?_;trivial
 |cons a rest=>
  refine ob h λy A h=>ob h λp r h=>?_;refine dH (aw h) ?_;induction rest using aV with
  |nil=>obtain rfl:=aw r;have q:=gp w A H;show Ev c X aD (Vz c) ((bg c.P n C y z.σ).bind λv σ=>.k v σ) (eval a X.e) z;revert q;induction bg c.P n C y z.σ using cO with|x _ _=>exactλG=>trivial|_=>exactλq=>q
  |cons b rest=>
   clear h;induction p using aV with
   |nil=>exact bJ (zE r) (λq=>nomatch q)
   |cons B p=>
    show Ev _ _ _ _ _ (do
     let v<-eval a X.e
     fC pos
     let t<-jL [v] (yk v)
     match op,t with
     |.And,aD|.Or,ai=>pure v
     |_,_=>boolOp pos op (evalEach (b::rest) X.e)) _
    refine(gp w A H).bind H λv u D E g f=>.stand ((Ev.of_lf (zI g.sr f)).hold.bind g λq s i j d e=>?_);obtain rfl:s=q:=e;induction op using w9 with
    |And=>induction s using b_ with|false=>exact .pure d.sr (f.step j.step)|true=>exact l X C i m pos .And (b::rest) (B::p) r d
    |Or=>induction s using b_ with|true=>exact .pure d.sr (f.step j.step)|false=>exact l X C i m pos .Or (b::rest) (B::p) r d
theorem PT (o:vG c n) (f:D6 c n):D6 c (n+1):=by
 intro X C z m op g s h H;have H:=H.less (eM n);induction g using aV with
 |nil=>refine dH (aw h) ?_;cases op<;>exact .pure H.sr rfl
 |cons a rest=>
  refine ob h λp r h=>ob h λj k h=>?_;refine dH (aw h) ?_;refine .of_eq (arm_allTrue_cons ..) (Ev.bind H (o X C z m a p r H) λq i d l b e=>?_);obtain rfl:i=q:=e;induction op using w9 with
  |And=>induction i using b_ with|false=>exact .pure b.sr rfl|true=>exact f X C d m .And rest j k b
  |Or=>induction i using b_ with|true=>exact .pure b.sr rfl|false=>exact f X C d m .Or rest j k b
theorem Ki (g:ig c n) {ast:bk} {e:IE} (t:dW m X.k ast=aa e) (H:cM c X C n z) (h:∀m,isTrue ast X.e m=(do let v<-m;fC ast.pos;jL [v] (yk v))):
  Ev c X aD Bb ((bg c.P n C e z.σ).bind λv σ=>opt σ (truth v σ)) (isTrue ast X.e (eval ast X.e)) z:=
 .of_eq (h _) ((gp g t H).bind H λv u d f a b=>.stand (.hold (.of_lf (zI a.sr b))))
theorem R.bind_assoc {α β γ:Type} (r:R α) (f:α->St->R β) (g:β->St->R γ):(r.bind f).bind g=r.bind λa σ=>(f a σ).bind g:=by cases r<;>rfl
theorem PU (B:gL c) (o:ig c n) {l r:bk} {op:qb} {pos:Pos} {a b:IE} (F:dW m X.k l=aa a) (p:dW m X.k r=aa b) (H:cM c X C n z) (whole:eR aE):
  Ev c X aD Bb ((bg c.P (n+1) C (.m a op b) z.σ).bind λv σ=>opt σ (truth v σ)) (isTrue (.Compare l [op] [r] pos) X.e whole) z:=by
 show Ev c X aD Bb (((bg c.P n C a z.σ).bind λx σ=>(bg c.P n C b σ).bind λy σ=>(opt σ (dG op x y σ)).bind λr σ=>.k (.b r) σ).bind λv σ=>opt σ (truth v σ)) _ z;rw[R.bind_assoc];refine .of_eq (yr ..) ((gp o F H).bind H λx u s t d g=>?_);rw[m_ [op] [r] _ (uD (iR p) op),R.bind_assoc];refine(gp o p d).hold.bind d λy v A h f i=>.stand ?_;rw[R.bind_assoc];refine(Ev.of_lf (vE B.sm (H.ok.room 7 #[0]) f.sr (g.step h.step) i)).oper.bind f λq w D E j e=>?_;obtain rfl:w=.bool q:=e;exact Ev.of_lf (dk (jt (ez.here j.sr rfl)))
theorem MD (B:gL c) (K:ig c n) {l r i:bk} {op f:qb} {pos:Pos} {a b d:IE} (V:dW m X.k l=aa a) (W:dW m X.k r=aa b) (L:dW m X.k i=aa d) (H:cM c X C n z) (whole:eR aE):
  Ev c X aD Bb ((bg c.P (n+1) C (.M a op b f d) z.σ).bind λv σ=>opt σ (truth v σ)) (isTrue (.Compare l [op,f] [r,i] pos) X.e whole) z:=by
 show Ev c X aD Bb (((bg c.P n C a z.σ).bind λx σ=>(bg c.P n C b σ).bind λy σ=>(opt σ (dG op x y σ)).bind λr σ=>if r then(bg c.P n C d σ).bind λz σ=>(opt σ (dG f y z σ)).bind λi σ=>.k (.b i) σ else .k (.b aD) σ).bind λv σ=>opt σ (truth v σ)) _ z;rw[R.bind_assoc];refine .of_eq (yr ..) ((gp K V H).bind H λx u N O j A=>?_);rw[m_ [op,f] [r,i] _ (uD (iR L) f),R.bind_assoc];show Ev _ _ _ _ _ (do
  let o<-jL [u] (eval r X.e)
  fC pos
  let cc<-jL [u,o] (kI op u o)
  release [u,o] [cc]
  if<-jL [cc,o] (yk cc)then testChain pos o [f] [eval i X.e]else pure aD) _
 refine(gp K W j).hold.bind j λy v Q D p s=>.stand ?_;rw[R.bind_assoc];refine(Ev.of_lf (vE B.sm (H.ok.room 7 #[0]) p.sr (A.step D.step) s)).hold.bind p λq w E F g e=>?_;obtain rfl:w=.bool q:=e;refine Ev.lift (λY Y h=>aA (rf (aA (dk (jt h))))) ?_;induction q using b_ with|false=>exact .pure g.sr rfl|true=>show Ev _ _ _ _ (((bg c.P n C d E.σ).bind λz σ=>(opt σ (dG f y z σ)).bind λi σ=>.k (.b i) σ).bind λv σ=>opt σ (truth v σ)) (do let o<-jL [v] (eval i X.e);fC pos;let cc<-operate [v,o] (kI f v o);jL [cc] (yk cc)) _;rw[R.bind_assoc];refine(gp K L g).hold.bind g λZ v' S G t I=>.stand ?_;rw[R.bind_assoc];refine(Ev.of_lf (vE B.sm (H.ok.room 7 #[0]) t.sr ((s.step F.step).step G.step) I)).oper.bind t λq w T U J e=>?_;obtain rfl:w=.bool q:=e;exact Ev.of_lf (dk (jt (ez.here J.sr rfl)))
theorem C5 {P:Prog} {e:IE} {σ:St} (h:D1 e=0\/D1 e=4):er P (n+1) C e σ=(bg P n C e σ).bind λv σ=>opt σ (truth v σ):=by cases e<;>first|rfl|exact h.elim (λq=>nomatch q) λq=>nomatch q
theorem Uj (B:gL c) (D:∀m,m<=n->ig c m) (o:vG c n) (ia:D6 c n):vG c (n+1):=by
 intro X C z m ast e h H;have H:=H.less (eM n);have p:=D n (bf n);refine cV (vz h) λm' T g E=>?_;have plain:=λj G=>C5 (.inl (E.trans j))▸Ki p h H G;induction ast using fL with
 |UnaryOp op x pos=>induction op using v8 with|Not=>refine ba (bK.mp g) λa u i=>?_;refine dH i ?_;exact .of_eq (arm_isTrue_UnaryOp ..) (Ev.bind H (o X C z m' x a u H) λq s d k b e=>.pure b.sr (aU (!·) (show s=q from e)))|_=>exact plain rfl λI=>rfl
 |BoolOp op J pos=>refine ba (bK.mp g) λK u i=>?_;refine dH i ?_;exact ia X C z m' op J K u H
 |IfExp t x y pos=>refine ob g λL M h=>ob h λN O h=>ob h λP ty h=>?_;refine dH (aw h) ?_;refine .of_eq (arm_isTrue_IfExp ..) (Ev.bind H (o X C z m' t L M H) λq s d k b e=>?_);obtain rfl:s=q:=e;induction s using b_ with|true=>exact o X C d m' x N O b|false=>exact o X C d m' y P ty b
 |Compare l f F pos=>
  rw[C5 (.inr E)];induction n using gC with
  |zero=>trivial
  |succ n=>
   have H:=H.less (eM n);have p:=D n (eM n);induction f using aV with
   |nil=>exact bO g
   |cons op f=>
    induction f using aV with
    |nil=>refine ob g λQ v h=>ob h λr j h=>ob h λR w h=>?_;refine dH (aw h) ?_;obtain rfl:=j_ j;exact PU B p v w H _
    |cons S f=>
     induction f using aV with
     |cons _ _=>exact bO g
     |nil=>induction F using aV with|nil=>exact bO g|cons r F=>refine ob g λQ v h=>ob h λU w h=>ob h λV j h=>ob h λR A h=>?_;refine dH (aw h) ?_;obtain rfl:=j_ j;exact MD B p v w A H _
 |_=>exact plain rfl λI=>rfl
end
theorem nD {x y:aC} (h:aZ x=aZ y):x=y:=by have c:=mq x;rw[h,mq y]at c;exact(String.toList_inj.mp (List.map_inj_right (λa b e=>Char.toNat_inj.mp e) |>.mp c)).symm
theorem C6 (x y:aC) (t:Tok):(Value.str (aZ x) t).isStr (aZ y)=decide (x=y):=
 ki.mpr ((show(aZ x==aZ y)=ai↔x=y from⟨λh=>nD (eq_of_beq h),λh=>eh.mpr (aU _ h)⟩).trans nR.symm)
section
variable {c:Cfg} {J:ae bh} {h:dj}
variable {C:ae (aC×AV)} {I:ae ew} {x:aC} {v:AV}
theorem rJ.noRef (r:rJ c J h C I):I.any (·.refKey)=aD:=by induction r with|nil=>rfl|@cons x t v e C I k _ _ a=>rw[xo,a,DV];show e.key.isRef=aD;rw[k];rfl
theorem rJ.get (r:rJ c J h C I):∃o,getL (aZ x) I=aa o/\OV c J h (C.lookup x) o:=by
 induction r with
 |nil=>exact aY ah rfl rfl
 |@cons y t v e C I k f r b=>
  refine ba b ?_;clear b;intro o g i;have d:e.key.isStr (aZ x)=decide (y=x):=by rw[k,C6]
  rw[fP];unfold getL;by_cases a:x=y
  ·clear k;subst a;rw[fk,ik,d,aI rfl];exact tF _ rfl _ rfl f
  ·rw[fW.mpr a,ik,d,aX (fR a),xo,show e.refKey=aD by show e.key.isRef=aD;rw[k];rfl,xq];exact aY o g i
theorem rJ.put {b:aq} {g:Tok} {u:aE} (d:VR c J h v u) {C:ae (aC×AV)} {I:ae ew} (r:rJ c J h C I):rJ c J h (bA x v C) (putL (aZ x) b (.str (aZ x) g) u I):=by
 induction r with
 |nil=>exact .cons rfl d .nil
 |@cons y t w e C I k i r j=>
  have f:e.key.isStr (aZ x)=decide (y=x):=by rw[k,C6]
  unfold bA putL;by_cases a:x=y
  ·rw[aF a,aF (f.trans (aI a.symm))];exact a▸.cons k d r
  ·rw[aG a,aG (λq=>a (bC (f.symm.trans q)).symm)];exact .cons k i j
theorem ME:(∀y∈(bA x v C).map (·.1),y=x\/y∈C.map (·.1))/\((C.map (·.1)).Nodup->((bA x v C).map (·.1)).Nodup):=by
 induction C with
 |nil=>exact⟨λy m=>.inl (aL.mp m),λd=>eW.mpr ⟨(λh=>nomatch h),.nil⟩⟩
 |cons e r c=>
  unfold bA;by_cases a:x=e.1
  ·rw[aF a];exact⟨λy m=>(bw.mp m).elim .inl λm=>.inr (aK _ m),λb=>by rw[fj,eW]at b⊢;exact⟨a▸b.1,b.2⟩⟩
  ·rw[aG a];refine⟨λy m=>(bw.mp m).elim (λq=>.inr (q▸aH)) λm=>(c.1 y m).imp id (aK _),λb=>?_⟩;rw[fj,eW]at b⊢;exact⟨λq=>(c.1 _ q).elim (λq=>a q.symm) b.1,c.2 b.2⟩
theorem rJ.len (r:rJ c J h C I):C.length=I.length:=by induction r with|nil=>rfl|cons _ _ _ a=>exact aU (·+1) a
end
structure D7 (c:Cfg) (z:Zs) (a:bh) (k:aC) (d:af) (fs:ae (aC×AV)) (C b:bh) (ds:ae ew) (n:af):Prop where
 ia:InstAt z.s.heap a (D5 C b) C (aa (mA ds n))
 ca:c.ca k=aa C
 b:z.ρ[d]?=aa b
 nr:rJ c z.ρ z.s.heap fs ds
 nd:(fs.map (·.1)).Nodup
section
variable {c:Cfg} {A:cQ} {z:Zs} {E:aE->aM->Prop}
theorem gL.inH (B:gL c) (X:fz c z):c.K.In z.s.heap:=λa o e=>X.base a o (B.inK a o e)
theorem Cn {a:bh} {k:aC} {d:af} {f:ae (aC×AV)} (X:fz c z) (r:OR c z.ρ z.s.heap a (.i k d)) (h:z.σ[d]?=aa (.n f)):∃C b ds n,D7 c z a k d f C b ds n:=by refine eV r ?_;clear r;intro C b j l g;refine eV (X.obj _ _ _ g h) λds n e r m=>?_;exact⟨C,b,ds,n,⟨j,rfl,rfl,e⟩,l,g,r,m⟩
variable {a C b:bh} {k x f:aC} {d n:af} {R:ae (aC×AV)} {J:ae ew}
theorem Kj (B:gL c) {v:AV} (X:fz c z) (I:D7 c z a k d R C b J n) (q:(c.P.s k).contains x=ai) (D:(R.lookup x).bind Mb=aa v) {Q:aE->aM->Prop} (F:∀u tk,Vz c z v u->Q u {z.s with toks:=tk}):
  bp c.M A (getAttr (.ref a) (aZ x) ai) Q E z.s:=by
 refine dp (B.fld k C x I.ca q) λf1 f2=>?_;refine lD (B.cls k C I.ca f1) λG H L N=>?_;refine ba (I.nr.get (x:=x)) λo g1 g2=>?_;refine ob D λw p K=>?_;rw[p]at g2;refine ba g2 ?_;clear g2;intro u j g2;obtain rfl:=j;have e:w=v/\handedIn u=ai:=by revert K;clear p;induction w using aN with|u _=>exactλh=>bO h|n=>exactλh=>⟨aw h,g2.none_e rfl⟩|b _=>exactλh=>⟨aw h,g2.bool_e rfl⟩|i _=>exactλh=>⟨aw h,g2.int_e λg=>rfl⟩|s _=>exactλh=>⟨aw h,g2.str_e λg=>rfl⟩|t _=>exactλh=>⟨aw h,g2.tup_e λg g g g g=>rfl⟩|l _=>exactλh=>⟨aw h,g2.loc_e λg g=>rfl⟩|r _ _=>exactλh=>⟨aw h,g2.rng_e λg g g g g=>rfl⟩|o _ _=>exactλh=>⟨aw h,g2.clo_e λg g g g g g g=>rfl⟩|f _=>exactλh=>⟨aw h,g2.fn_e λg g=>rfl⟩|c _=>exactλh=>⟨aw h,g2.cls_e λg g=>rfl⟩|y _=>exactλh=>⟨aw h,g2.ty_e rfl⟩
 exact get_value (B.inH X) I.ia (zh G).1 (findObj_own H f2 rfl g1) e.2 (F u _ (e.1▸g2))
theorem MH (B:gL c) {pl:eR bD} (X:fz c z) (I:D7 c z a k d R C b J n) (h:c.P.x k=aD) (i:c.P.m k x=aa f) (j:(R.lookup x).isNone=ai) {Q:aE×ae aE->aM->Prop} (l:∀g,c.fa f=aa g->Q (.ref g,[.ref a]) z.s):
  bp c.M A (getMethod (.ref a) (aZ x) pl) Q E z.s:=by
 refine cV (B.meth k C x f I.ca i) λg p q r=>?_;refine lD (B.cls k C I.ca h) λe t u v=>?_;refine ba (I.nr.get (x:=x)) λo g1 g2=>?_;rw[jc.mp j]at g2;exact method_fn (B.inH X) I.ia (zh e).1 (zh e).2 q r (aU (qi _) (g1.trans (aU aa (show o=ah from g2)))) (l g p)
theorem MJ {nm:cI} {b:aq} {k u:aE} (a:ae ew):(putL nm b k u a).length<=a.length+1:=by
 induction a with
 |nil=>exact bf _
 |cons e a c=>
  unfold putL;split
  ·exact eM _
  ·exact mG c
theorem Kk (B:gL c) {v:AV} {u:aE} (X:fz c z) (I:D7 c z a k d R C b J n) (m:(c.P.s k).contains x=ai) (p:Vz c z v u) (q:R.length<=500):
  bp c.M A (setAttr (.ref a) (aZ x) u) (ez c (λ_ (_:dt) (_:dt)=>True) z () (z.σ.set d (.n (bA x v R)))) E z.s:=by
 refine dp (B.fld k C x I.ca m) λf1 f2=>?_;refine lD (B.cls k C I.ca f1) λH r t y=>?_;have i:=B.inH X;have e:z.s.heap.get? b=aa (mA J n):=I.ia.dict;have D:yW c.K C (aZ x)=aa ah:=by unfold yW;rw[f2];rfl
 refine set_plain i I.ia t (osa_open (s:={z.s with toks:=z.s.toks+1}) i I.ia y D λbb=>?_);refine ba (any_some r) λL F j=>?_;have f:(z.s.heap.update b (Obj.putName (aZ x) (q0 c.w.params (aZ x)) (.str (aZ x) (z.s.toks+1)) u)).get? b=
   aa (mA (putL (aZ x) (q0 c.w.params (aZ x)) (.str (aZ x) (z.s.toks+1)) u J) (putN (aZ x) J n)):=by
  rw[iV _ e (by rw[show(mA J n)=dictOf J n from rfl,putName_dict];rfl),show(mA J n)=dictOf J n from rfl,putName_dict]
 have l:gQ b z.s.heap (z.s.heap.update b (Obj.putName (aZ x) (q0 c.w.params (aZ x)) (.str (aZ x) (z.s.toks+1)) u)):=m9 ..;have st:fN [] z.ρ z.s.heap z.ρ _:=.turn X I.b l ⟨_,f⟩;have g:=Good.turn (J:=[]) X (o:=.n (bA x v R)) (z.s.toks+1+1) I.b l ⟨_,f⟩ (fD _ _ f (.put (p.step st) (I.nr.map st.get st.fixed)) (ME.2 I.nd));refine aA (aW (aA (aA (v9 I.ia.at_ (aA (Looks.here (s:={z.s with toks:=z.s.toks+1}) (zj i F) ?_))))));rw[j];refine aW (a:=aa b) (aA (aW (aA ?_)));refine aA (aA (wpAny_askSetting (aW (aA (wpAny_mkText (aA (v9 e ?_)))))));dsimp only;have G:(!J.toArray.any (·.key.isStr (aZ x))&&J.toArray.any (·.refKey))=aD:=by rw[Ah,Ah,I.nr.noRef,CQ]
 rw[aRefKeyMayBeTheName_at,G];refine wpAny_updatePart e (aA (ue f (uf ?_) (aW (aY _ g trivial))));rw[cb,zk];exact dI (MJ J) (dI (mG (I.nr.len▸q)) #[0])
end
def V5 (c:Cfg) (z:Zs) (a:Fl) (f:Flow):Prop:=match a with|.n=>f=.next|.r v=>∃u,f=.ret u/\Vz c z v u
abbrev jO (c:Cfg) (X:Fx):nj (Fl×AF) Flow:=λz x f=>jy c X x.2 z/\V5 c z x.1 f
abbrev AS (c:Cfg) (n:af):Prop:=∀(X:Fx) (fr:AF) (z:Zs) (m:af) (a:ae et) (is:ae IS),fJ (oB m X.k) a=aa is->sA X->cM c X fr n z->Ev c X ai (jO c X) (dw c.P n is fr z.σ) (execs a X.e) z
abbrev SG (c:Cfg) (n:af):Prop:=∀(X:Fx) (fr:AF) (z:Zs) (m:af) (ast:et) (i:IS),oB m X.k ast=aa i->sA X->cM c X fr n z->Ev c X ai (jO c X) (cS c.P n i fr z.σ) (exec ast X.e) z
structure CX (c:Cfg) (X:Fx) (n:af) (z:Zs):Prop where
 hh:X.A.handled=ah
 dep:X.A.depth+n<980
 un:X.A.units+4*n<9000
 frames:X.A.frames=aa X.l
 sr:fz c z
 out:pC c X.l z
theorem cM.cx {c:Cfg} {X:Fx} {fr:AF} {n:af} {z:Zs} (h:cM c X fr n z):CX c X n z:=⟨h.ok.hh,h.ok.dep,h.ok.un,h.ok.frames,h.sr,h.out⟩
def OZ (c:Cfg) (X:Fx) (z:Zs):R AV->v_->aM->Prop
 |.k v σ',.ok (.ret u),s'=>vF c [] (Vz c) z v σ' u s'
 |.x k σ',.error e,s'=>oG c X aD z k σ' e s'
 |_,_,_=>False
def Cv (c:Cfg) (X:Fx) (r:R AV) (k:Code) (z:Zs):Prop:=r=.b\/lB c.M X.A k (OZ c X z r) z.s
abbrev D8 (z:Zs) (oY:ae (aC×af)) (fd:FuncData):Prop:=∀x k,oY.lookup x=aa k->∃b,fd.closure.lookup (aZ x)=aa b/\z.ρ[k]?=aa b
abbrev O0 (c:Cfg) (n:af):Prop:=∀(X:Fx) (z:Zs) (f:aC) (oY:ae (aC×af)) (a:bh) (fd:FuncData) (b:FD) (body:ae et) (d:ae AV) (e:ae aE),
 CX c X n z->z.s.heap.get? a=aa (uA fd)->tL c f fd b body->D8 z oY fd->lX c z d e->Cv c X (cg c.P n f oY d z.σ) (.call (.ref a) ⟨e,[]⟩) z
abbrev Kl (c:Cfg) (n:af):Prop:=∀(X:Fx) (z:Zs) (g:AV) (u:aE) (a:ae AV) (b:ae aE),CX c X n z->Vz c z g u->lX c z a b->Ev c X aD (Vz c) (mw c.P n g a z.σ) (call u b) z
section
variable {C I:Type}
theorem AU [BEq C] [uT C] {x:C} {v:I} {l:ae (C×I)} (b:(l.map (·.1)).Nodup) (a:(x,v)∈l):l.lookup x=aa v:=by
 induction l with
 |nil=>exact nomatch a
 |cons e r c=>
  refine dp (eW.mp b) λd f=>?_;rw[show e=(e.1,e.2)from rfl,fP];rcases bw.mp a with q|q
  ·rw[<-q,fk]
  ·rw[fW.mpr λg:x=e.1=>d (bT.mpr (aY _ q g))];exact c f q
theorem ei [BEq C] [uT C] {x:C} {v:I} {l:ae (C×I)} (h:l.lookup x=aa v):(x,v)∈l:=by
 induction l with
 |nil=>exact bO h
 |cons e r b=>rw[show e=(e.1,e.2)from rfl,fP]at h;cases a:x==e.1 with|true=>rw[a]at h;exact bw.mpr (.inl (Gi (eq_of_beq a) (aw h).symm))|false=>rw[a]at h;exact aK _ (b h)
theorem tM {l:ae C}:∀{m:ae I},l.length<=m.length->(l.zip m).map (·.1)=l:=by
 induction l with
 |nil=>exactλd=>rfl
 |cons a l c=>intro m h;induction m using aV with|nil=>exact bJ h (Nat.not_succ_le_zero _)|cons b m=>exact aU (a::·) (c (vh h))
theorem xN {l:ae aC} (h:l.Nodup):(l.map aZ).Nodup:=by induction l with|nil=>exact .nil|cons a l c=>refine dp (eW.mp h) λd e=>?_;exact eW.mpr ⟨λq=>(bT.mp q).elim λb q=>d (nD q.2▸q.1),c e⟩
variable {c:Cfg} {ρ:ae bh} {h:dj}
theorem EJ.vrs {a:ae AV} {us:ae aE} (r:EJ a us):fq c ρ h a us:=by induction r with|nil=>exact .nil|int _ b=>exact .cons (.int _ _) b
theorem ES {x:aC} {v:AV} {d:ae aC}:∀{b:ae AV} {us:ae aE},fq c ρ h b us->(x,v)∈d.zip b->∃u,(aZ x,u)∈(d.map aZ).zip us/\VR c ρ h v u:=by
 induction d with
 |nil=>exactλk m=>nomatch m
 |cons p d f=>intro b us r m;induction b using aV with|nil=>exact nomatch m|cons w b=>revert m;refine r.cons_e λu us a r m=>(bw.mp m).elim (λe=>?_) λm=>(f r m).elim λg q=>aY g (aK _ q.1) q.2;refine dp (eK e) λi j=>?_;exact aY u (bw.mpr (.inl (i▸rfl))) (j▸a)
theorem C7 {l:ae cI}:∀{cs:ae aC},AI l=aa cs->l=cs.map aZ:=by induction l with|nil=>exactλh=>(aw h)▸rfl|cons a r b=>exactλh=>ob h λx c h=>ob h λy d h=>aw h▸congr (aU yg (pV c).symm) (b d)
end
section
variable {M:Model} {A:cQ} {s:aM} {I:dj} {J:gP} {l:ae gP} {e L:bh} {C:aE} {E:aE->aM->Prop}
theorem EX.note (j:∃o,l=J::o) (c:A.frames=aa l) (d:J.frame=aa L) (x:EX I l e C L s.heap) {Q:dt->aM->Prop} (f:∀a a0,qo I l e C a0 L a->s.heap.UpToSlots a->Q () {s with heap:=a}):bp M A (uU (.ref e) J) Q E s:=by refine ck j ?_;clear j;intro g b;obtain rfl:=b;cases x with|made v m h n=>refine CU n ?_;clear n;intro H K a0 p b q w r;obtain rfl:=b;unfold uU;simp only[d];refine aA (oW p q r ?_);rw[aG #[0]];refine wpAny_entryW c h d p v m q (si.mp r).1 w λa t=>?_;refine lD t ?_;clear t;intro y z B D;exact f a a0 (jB y m z B) D|held a0 u=>exact wpAny_noteFrame_againW d u.2.2.2 (f s.heap a0 u (.refl _))|fly a0 i=>exact wpAny_looks_onW c d i λa F G=>f a a0 F G
theorem EX.leave {o:ae gP} (f:l=J::o) (b:A.frames=aa l) (j:J.frame=aa L) (x:EX I l e C L s.heap) {Q:dt->aM->Prop} (k:∀c a0,yp I o e C a0 c->s.heap.UpToSlots c->Q () {s with heap:=c}):bp M A (leaving J (.ref e)) Q E s:=by refine aA (x.note ⟨o,f⟩ b j λh a0 m n=>?_);clear b x;subst f;refine wpAny_landsW m λh₂ i a=>?_;refine lD i ?_;clear i;intro p q d r;refine iK d λt t u=>?_;exact k h₂ a0 (jB p q u r) (n.trans a)
end
section
variable {c:Cfg} {X:Fx} {n:af} {z z':Zs} {l:ae gP} {I:gP}
theorem xh.under {i:ae gP} {d:ae bh} {f:St} {base:dj} {s':aM} (t:xh c (I::l) i z' d f base s') (g:Good c [] z z') (n:z.s.heap.get? I.locals=ah) (p:∀e∈i,e.locals∉z.ρ) {j:dj} (u:s'.heap.UpToSlots j):xh c l i z d f base {s' with heap:=j}:=by
 have b:=t.after g (λA q=>nomatch q) λe h=>⟨p e h,λq=>nomatch q⟩
 exact⟨b.sr,b.pre,λa o v w e=>b.keep a o v (λx h q=>(bw.mp h).elim (λr=>gF n (r▸q▸e)) λr=>w x r q) e,b.fixed,λe h m y=>u.ns (b.ns e h m y),b.gens,b.drawn,b.os⟩
noncomputable abbrev deep (X:Fx) (I:gP) (a:KO):Fx:=⟨X.A.deeper I,I::X.l,I,a⟩
noncomputable abbrev callFin:Fl×AF->St->R AV:=λx σ=>match x.1 with|.n=>.k .n σ|.r v=>.k v σ
set_option backward.match.sparseCases true in
theorem ET {D:KO} {j:R (Fl×AF)} {p:bD} {body:ae et} (o:Ev c (deep X I D) ai (jO c (deep X I D)) j (execs body I) z') (g:Good c [] z z') (E:z.s.heap.get? I.locals=ah) (F:I.frame=aa I.locals) (w:X.A.frames=aa X.l) (H:pC c X.l z) (y:(gc p j).bindX callFin≠.b):
  bp c.M (X.A.deeper I) (execs body I) (λf s'=>OZ c X z ((gc p j).bindX callFin) (.ok (.ret (match f with|.ret v=>v|_=>.none))) s')
   (λe s'=>bp c.M (X.A.deeper I) (leaving I e) (λm h=>OZ c X z ((gc p j).bindX callFin) (.error e) h) (λJ h=>OZ c X z ((gc p j).bindX callFin) (.error J) h) s') z'.s:=by
 induction j using cO with
 |b=>exact bJ (by cases p<;>rfl) y
 |k x B=>refine bS o (λf s' q=>?_) λm m e=>e.elim;refine cV q ?_;clear q;intro d g' f1 f2;have G:=g.transX g' λa K=>.inr (aL.mp K▸E);clear f1 o;obtain⟨L,N⟩:=x;clear y;induction L using qr with|n=>obtain rfl:f=.next:=f2;cases p<;>exact aY d G .none|r v=>refine ba f2 ?_;clear f2;intro u i f2;refine dq i ?_;cases p<;>exact aY d G f2
 |x k B=>induction p using b_ with|false=>exact bJ rfl y|true=>refine bS o (λm m q=>q.elim) λv s' t=>?_;refine lE t ?_;clear t;intro e base d C i O P t;refine dq i ?_;exact EX.leave rfl (show(X.A.deeper I).frames=aa (I::X.l)by show X.A.frames.map _=_;rw[w];rfl) F P λU a0 Q S=>pn e base d C rfl O ⟨a0,Q⟩ (t.under g E (λe T=>(H e T).new) S)
theorem EU {f:aC} {oY:ae (aC×af)} {a:FD} {i:ae AV} {σ:St} (h:c.P.f f=aa a):cg c.P (n+1) f oY i σ=.b\/∃g,ni a.p a.d i=aa g/\
  cg c.P (n+1) f oY i σ=(gc a.c.isEmpty (dw c.P n a.b ⟨g.filter λb=>!a.c.contains b.1,(j8 a.c g σ).1++oY⟩ (j8 a.c g σ).2)).bindX callFin:=by
 have e:cg c.P (n+1) f oY i σ=(match c.P.f f with
  |none=>.b
  |some fd=>(match ni fd.p fd.d i with
   |none=>.b
   |some g=>(gc fd.c.isEmpty (dw c.P n fd.b ⟨g.filter λb=>!fd.c.contains b.1,(j8 fd.c g σ).1++oY⟩ (j8 fd.c g σ).2)).bindX callFin)):=rfl
 rw[h]at e;cases q:ni a.p a.d i with|none=>rw[e];exact .inl (by show(match ni a.p a.d i with|none=>_|some _=>_)=_;rw[q])|some g=>exact .inr (aY g rfl (by rw[e];show(match ni a.p a.d i with|none=>_|some _=>_)=_;rw[q]))
theorem C8 {a:ae aC} {ds args:ae AV} {bs:ae (aC×AV)} (h:ni a ds args=aa bs):(args.length<=a.length/\a.length<=args.length+ds.length)/\bs=a.zip (args++ds.drop (ds.length+args.length-a.length)):=by
 unfold ni at h;by_cases q:args.length<=a.length/\a.length<=args.length+ds.length
 ·rw[aF q]at h;exact⟨q,(aw h).symm⟩
 ·rw[aG q]at h;exact bO h
variable {f:aC} {U:ae (aC×af)} {a:bh} {fd:FuncData} {J:FD} {body:ae et} {vs:ae AV} {us:ae aE}
theorem lP (h:dj):h.get? h.objs.size=ah:=eL (bf _)
theorem Hr (B:gL c) (F:tL c f fd J body) (K:CX c X (n+1) z) {I:gP} (d:I.scope=fd.scope) (e:I.globals=fd.globals) (g:I.builtins=fd.builtins) (h:∀x,I.kindOf x=fd.scope.names.lookup x) (a:∀x,uC (λx=>fd.scope.names.lookup x) x->∃b,I.cells.lookup x=aa b)
  (i:I.locals=z.s.heap.objs.size):l_ c (deep X I λx=>fd.scope.names.lookup x) n:=
 ⟨d▸F.kind,h,e.trans F.glob,g.trans F.bt,a,i▸K.sr.fresh_new (lP _),K.hh,by have:=K.dep;exact#[110,this],by have:=K.un;exact#["5niK.gOq8|aOunD&&wVS6w_Vf'",this],by show X.A.frames.map _=_;rw[K.frames];rfl⟩
theorem EV (K:CX c X (n+1) z) (g:Good c [] z z') (d:I.scope.kind=.function) (f:I.frame=aa I.locals) (h:I.locals∉z'.ρ) (i:c.h₀.get? I.locals=ah) {m:cI->au aE} (b:z'.s.heap.Ns I.locals m):pC c (I::X.l) z':=λe a=>by
 rcases bw.mp a with rfl|a
 ·refine lq b ?_;clear b;intro o p r j hd _;exact⟨by rw[d];decide,f,h,i,o,j,mB (by rw[hd];rfl),λvs q=>nomatch hd.symm.trans q⟩
 ·exact K.out.step g.step (λk k q=>nomatch q) e a
theorem EW (K:CX c X (n+1) z) (a:KO) (b:I.frame=aa I.locals) (d:z.s.heap.get? I.locals=ah):sA (deep X I a):=⟨aY X.l rfl (λe f q=>(K.out e f).obj.elim λo r=>gF d (q▸r.1)),b⟩
theorem GF (B:gL c) (ib:AS c n) (K:CX c X (n+1) z) (W:z.s.heap.get? a=aa (uA fd)) (F:tL c f fd J body) (Y:D8 z U fd) (r:lX c z vs us) (G:J.c=[]):Cv c X (cg c.P (n+1) f U vs z.σ) (.call (.ref a) ⟨us,[]⟩) z:=by
 rcases EU F.fns with e|⟨Z,t,e⟩
 ·exact .inl e
 rw[e,G];by_cases R:(gc ai (dw c.P n J.b ⟨Z.filter λb=>!([]:ae aC).contains b.1,U⟩ z.σ)).bindX callFin=.b
 ·exact .inl R
 refine dp (C8 t) λH I=>?_;refine dp H λS L=>?_;clear e t;obtain rfl:=I;refine ba F.dv λM w N=>?_;have j:=r.length;have o:=(fq.length (w.vrs (c:=c) (ρ:=z.ρ) (h:=z.s.heap)))
 have i:=N z.s us K.sr.base (j▸S) (j▸o▸L);rw[<-o,<-j]at i;have y:lX c z (vs++J.d.drop (J.d.length+vs.length-J.p.length)) (us++M.drop (J.d.length+vs.length-J.p.length)):=fq.append ((w.vrs).drop _) r;have A:J.p.length<=(us++M.drop (J.d.length+vs.length-J.p.length)).length:=by rw[ar,cj,<-o,<-j];exact#["1OIaKbw7Q$Ca_*ZQAag",ag #[85,L],ag #["W!X56Y2Z9.iO`<{",S,ag #[85,L]]]
 have h0:vy fd.scope=[]:=by rw[C7 F.cells,G];rfl
 have T:∀x,(x,r_)∉fd.scope.names:=λx m=>by have:x∈vy fd.scope:=bT.mpr (aY (x,.cell) (lM.mpr ⟨m,rfl⟩) rfl);rw[h0]at this;exact nomatch this
 refine .inr (codeAny_call_def (de (eG _ _) (ud K.dep #[0])) W rfl (B.lim.keeps K.sr.base) (F.code.keeps K.sr.base) F.bd i (λx l e=>T x.1 (e▸l)) (λx l=>?_) (λC D O=>?_) F.co F.gen F.kind)
 ·refine ba (bT.mp (uV (show(x.1,x.2)∈_ from l)).1) λp hp Q=>?_;have:=F.pk p hp;rw[G]at this;exact Q▸this
 have g:Good c [] z ⟨z.ρ,z.σ,{z.s with heap:=C,toks:=z.s.toks+((J.p.map aZ).zip (us++M.drop (J.d.length+vs.length-J.p.length))).length}⟩:=.keeps K.sr O _;have E:∀x,uC (λx=>fd.scope.names.lookup x) x->∃b,fd.closure.lookup x=aa b:=λx l=>l.elim (λq=>bJ (ei q) (T x)) (F.fre x);refine ET (ib (deep X (callEnv fd z.s.heap.objs.size a) λx=>fd.scope.names.lookup x) _ _ 50 body J.b F.tb (EW K _ rfl (lP _)) ⟨Hr B F K rfl rfl rfl (λu0=>rfl) E rfl,g.sr,⟨aY _ D (λx v l=>?_),λx k l u0=>?_,K.sr.size⟩,
  EV K g F.kind rfl K.sr.size (K.sr.fresh_new (lP _)) D⟩) g (lP _) rfl K.frames K.out R
 ·refine ba (ES (y.step g.step) (lM.mp (ei l)).1) λu h1 h2=>?_;refine aY u (AU ?_ (dE.mpr h1)) h2;rw[Ai,tM (by rw[az];exact A)];exact(gE _).nodup_iff.mpr (xN F.nodup)
 ·exact Y x k l
end
section
variable {k:cI->au q9} {x:cI} {u:aE}
theorem Km (a:ae (cI×aE)):∀m:cI->au aE,x∉a.map (·.1)->bindL k a m x=m x:=by
 induction a with
 |nil=>exactλb b=>rfl
 |cons e r c=>
  intro m h;refine(c _ λq=>h (aK _ q)).trans ?_;split
  ·exact aG λq:x=e.1=>h (bw.mpr (.inl q))
  ·rfl
theorem C9 (a:ae (cI×aE)):∀m:cI->au aE,x∉a.map (·.1)->bindC k a m x=m x:=by
 induction a with
 |nil=>exactλb b=>rfl
 |cons e r c=>
  intro m h;refine(c _ λq=>h (aK _ q)).trans ?_;split
  ·rfl
  ·exact aG λq:x=e.1=>h (bw.mpr (.inl q))
theorem MK (b:k x=aa .local) (a:ae (cI×aE)):∀m:cI->au aE,(a.map (·.1)).Nodup->(x,u)∈a->bindL k a m x=aa u:=by
 induction a with
 |nil=>exactλc c q=>nomatch q
 |cons e r d=>
  intro m f g;refine dp (eW.mp f) λh i=>?_;rcases bw.mp g with q|q
  ·refine(Km r _ (by rw[show x=e.1 from aU lU q];exact h)).trans ?_;rw[<-q,aF b,aF rfl]
  ·exact d _ i q
theorem ML (b:k x≠aa .local) (a:ae (cI×aE)):∀m:cI->au aE,(a.map (·.1)).Nodup->(x,u)∈a->bindC k a m x=aa u:=by
 induction a with
 |nil=>exactλc c q=>nomatch q
 |cons e r d=>
  intro m f g;refine dp (eW.mp f) λh i=>?_;rcases bw.mp g with q|q
  ·refine(C9 r _ (by rw[show x=e.1 from aU lU q];exact h)).trans ?_;rw[<-q,aG b,aF rfl]
  ·exact d _ i q
end
theorem EY (a:ae (cI×q9)):∀(n:af) (b:ae (cI×bh)),cellsFrom n a b=(((a.filter λy=>y.2==.cell).map (·.1)).zip (eY n (a.filter λy=>y.2==.cell).length)).reverse++b:=by
 induction a with
 |nil=>exactλd d=>rfl
 |cons e r c=>obtain⟨x,k⟩:=e;intro n b;unfold cellsFrom;rw[List.filter_cons];cases f:k==r_ with|true=>rw[aF rfl,aF rfl,c,aQ,iP,fj,List.zip_cons_cons,List.reverse_cons,aj];rfl|false=>rw[aG #[0],aG #[0],c]
theorem IA (a:ae aC) (b:ae (aC×AV)):∀σ:St,j8 a b σ=(a.zip (eY σ.length a.length),σ++a.map λx=>.c (b.lookup x)):=by
 induction a with
 |nil=>exactλσ=>by rw[nW,aJ];rfl
 |cons x a d=>intro σ;unfold j8;rw[d,aQ,iP,ar,aj];rfl
theorem PV {α:Type} {l:ae α} {a b:af} {x:α} {k:af} (h:(x,k)∈l.zip (eY a b)):∃i,l[i]?=aa x/\k=a+i/\i<b:=by refine ck (dK.mp h) λi e=>?_;refine dp (s9.mp e) λf d=>?_;have c:=(aP.mp d).1;rw[nX]at c;rw[mK c,jU]at d;exact dS i f ((aw d).symm) c
theorem u9 {α β:Type} [BEq α] [uT α] {x:α} {l:ae (α×β)} (h:l.lookup x=ah):x∉l.map (·.1):=by
 induction l with
 |nil=>exactλq=>nomatch q
 |cons e r b=>rw[show e=(e.1,e.2)from rfl,fP]at h;cases a:x==e.1 with|true=>rw[a]at h;exact bO h.symm|false=>rw[a]at h;exactλq=>(bw.mp q).elim (λq=>fW.mp a q) (b h)
section
variable {c:Cfg} {X:Fx} {n:af} {z:Zs}
theorem IB (Z:fz c z) {m y:cI->au aE} {cs:ae (cI×bh)} {g:aM} (I:InCallC z.s z.s.heap.objs.size m cs y g) (d:ae aC) (t:ae (aC×AV))
  (w:∀i x,d[i]?=aa x->cs.lookup (aZ x)=aa (z.s.heap.objs.size+1+i)) (D:∀x∈d,OV c z.ρ z.s.heap (t.lookup x) (y (aZ x))):
  Good c [] z ⟨z.ρ++eY (z.s.heap.objs.size+1) d.length,z.σ++d.map λx=>.c (t.lookup x),g⟩:=by
 refine d9 I.done λE tk h keep=>?_;obtain rfl:=h;have f:∀a∈eY (z.s.heap.objs.size+1) d.length,z.s.heap.get? a=ah:=λa j=>eL (nO (sM.mp j).1);have st:fN [] z.ρ z.s.heap (z.ρ++eY (z.s.heap.objs.size+1) d.length) E:=⟨aY _ rfl f,λa o A A e=>keep a o e,λa o A e=>keep a o e,λa o e=>⟨o,keep a o e⟩⟩
 refine⟨st,⟨by rw[ar,ar,nX,az,Z.len],l4.mpr (dy Z.nodup List.nodup_range' (λa j b r e=>Z.not_mem (f b r) (e▸j))),λk a o l n=>?_,λa o e=>keep a o (Z.base a o e),
  λa j=>(b7.mp j).elim (Z.fresh a) λj=>Z.fresh_new (f a j)⟩,rfl,rfl,rfl⟩
 rcases gN k z.ρ.length with q|q
 ·rw[bM q]at l;rw[bM (Z.len▸q)]at n;exact(Z.obj k a o l n).map st.get st.fixed λob e=>keep _ _ e
 ·rw[be q]at l;rw[be (Z.len▸q),<-Z.len,bE]at n;have p:=(aP.mp l).1;rw[nX]at p;rw[mK p,jU]at l;refine ba (bK.mp n) λx B h=>?_;clear n;obtain rfl:=h;have C:=I.cell _ _ (w _ x B);rw[aw l]at C;refine aY _ C ?_;have:=D x (bG B);cases r:t.lookup x with|none=>rw[r]at this;exact this|some v=>rw[r]at this;refine ba this ?_;clear this;intro u F G;exact aY u F (G.step st)
variable {f:aC} {J:ae (aC×af)} {a:bh} {R:FuncData} {C:FD} {U:ae et} {vs:ae AV} {us:ae aE}
theorem GG (B:gL c) (ib:AS c n) (K:CX c X (n+1) z) (ha:z.s.heap.get? a=aa (uA R)) (F:tL c f R C U) (hf:D8 z J R) (r:lX c z vs us) (j:R.closure=[]) (Wd:C.d=[]) (We:C.c.Nodup)
  (H:∀us:ae aE,us.length=C.p.length->pd R ⟨us,[]⟩=pure ((C.p.map aZ).zip us)):Cv c X (cg c.P (n+1) f J vs z.σ) (.call (.ref a) ⟨us,[]⟩) z:=by
 rcases EU F.fns with e|⟨bs,N,e⟩
 ·exact .inl e
 rw[e,IA];by_cases O:(gc C.c.isEmpty (dw c.P n C.b ⟨bs.filter λb=>!C.c.contains b.1,C.c.zip (eY z.σ.length C.c.length)++J⟩ (z.σ++C.c.map λx=>.c (bs.lookup x)))).bindX callFin=.b
 ·exact .inl O
 refine dp (C8 N) λWf e=>?_;refine dp Wf λl1 l2=>?_;rw[Wd]at l2 e;rw[sd,aJ]at e;clear N;subst e;have Q:=aB l1 l2;have l:=r.length▸Q;have A:(((C.p.map aZ).zip us).map (·.1)).Nodup:=by rw[tM (by rw[az,l];exact bf _)];exact xN F.nodup
 have M:((R.scope.names.filter λy=>y.2==.cell).map (·.1))=C.c.map aZ:=C7 F.cells;have S:(R.scope.names.filter λy=>y.2==.cell).length=C.c.length:=by
  have:=aU fu M
  rwa [az,az]at this
 have w:∀L i x,C.c[i]?=aa x->(cellsFrom L R.scope.names []).lookup (aZ x)=aa (L+i):=λL i x g=>by rw[EY,M,S,aJ];refine AU ?_ (dE.mpr (dK.mpr ⟨i,s9.mpr ⟨by rw[bE,g];rfl,by rw[mK (aP.mp g).1,jU]⟩⟩));rw[Ai,tM (by rw[az,nX];exact bf _)];exact(gE _).nodup_iff.mpr (xN We)
 have D:∀{p},p∈C.c->∃i,C.c[i]?=aa p:=λh=>dK.mp h;have T:∀{p v},(p,v)∈C.p.zip vs->R.scope.names.lookup (aZ p)=aa (if C.c.contains p then .cell else .local):=λm=>F.pk _ (uV m).1;refine .inr (codeAny_call_cells (de (eG _ _) (ud K.dep #[0])) ha rfl (B.lim.keeps K.sr.base) (F.code.keeps K.sr.base) F.bd (H us l) j (λx g=>?_) (λE I=>?_) F.co F.gen F.kind)
 ·refine ba (bT.mp (uV (show(x.1,x.2)∈_ from g)).1) λp V o=>?_;have:=F.pk p V;rw[<-o];by_cases hc:C.c.contains p=ai
  ·rw[aF hc]at this;refine ck (D (pN.mp hc)) λi hi=>?_;exact .inr ⟨this,by rw[w _ i p hi];rfl⟩
  ·rw[aG hc]at this;exact .inl this
 have G:Good c [] z ⟨z.ρ++eY (z.s.heap.objs.size+1) C.c.length,z.σ++C.c.map λx=>.c ((C.p.zip vs).lookup x),E⟩:=by
  refine IB K.sr I C.c (C.p.zip vs) (λi x g=>w _ i x g) λx g=>?_;cases O:(C.p.zip vs).lookup x with
  |some v=>
   have t:=ei O;refine ba (ES r t) λu W Y=>?_;have hk:R.scope.names.lookup (aZ x)=aa .cell:=by
    have:=T t
    rwa [aF (pN.mpr g)]at this
   exact aY u (ML (by show R.scope.names.lookup _≠_;rw[hk];decide) _ _ A W) Y
  |none=>refine C9 _ _ λq=>?_;rw[tM (by rw[az,l];exact bf _)]at q;refine ba (bT.mp q) λp V o=>?_;have:=u9 O;rw[tM (iy Q.symm)]at this;exact this (nD o▸V)
 have Z:∀x,uC (λx=>R.scope.names.lookup x) x->∃b,(callEnvC R z.s.heap.objs.size a).cells.lookup x=aa b:=λx g=>g.elim (λg=>?_) λg=>?_
 rotate_left
 ·have t:x∈C.c.map aZ:=M▸bT.mpr (aY (x,.cell) (lM.mpr ⟨ei g,rfl⟩) rfl);refine ba (bT.mp t) λp V o=>?_;refine ck (D V) λi hi=>?_;exact⟨_,o▸w _ i p hi⟩
 ·exact(F.fre x g).elim λb q=>bO (show([]:ae (cI×bh)).lookup x=aa b from j▸q)
 have Wc:z.s.heap.objs.size∉z.ρ++eY (z.s.heap.objs.size+1) C.c.length:=λq=>(b7.mp q).elim K.sr.size λq=>bJ (sM.mp q).1 (Nat.not_succ_le_self _);refine ET (ib (deep X (callEnvC R z.s.heap.objs.size a) λx=>R.scope.names.lookup x) _ ⟨z.ρ++eY (z.s.heap.objs.size+1) C.c.length,z.σ++C.c.map λx=>.c ((C.p.zip vs).lookup x),E⟩ 50 U C.b F.tb
  (EW K _ rfl (lP _)) ⟨Hr B F K rfl rfl rfl (λu0=>rfl) Z rfl,G.sr,⟨aY _ I.toInCall.ns (λx v g=>?_),λx k g u0=>?_,Wc⟩,EV K G F.kind rfl Wc (K.sr.fresh_new (lP _)) I.toInCall.ns⟩) G (lP _) rfl K.frames K.out O
 ·refine dp (lM.mp (ei g)) λt Wg=>?_;refine ba (ES r t) λu W Y=>?_;refine aY u (MK ?_ _ _ A W) (Y.step G.step);have:=T t
  rwa [aG (by rw[AL Wg];decide)]at this
 ·rcases b7.mp (ei g)with t|t
  ·refine cV (PV t) λi W Y h3=>?_;refine aY (z.s.heap.objs.size+1+i) (w _ i x W) ?_;rw[Y,<-K.sr.len,be (eG _ _),gi,mK h3,jU]
  ·cases q:J.lookup x with|some k'=>exact(hf x k' q).elim λb q=>bO (show([]:ae (cI×bh)).lookup _=aa b from j▸q.1)|none=>exact bJ (bT.mpr (aY _ t rfl)) (u9 q)
theorem Uk (B:gL c) (ib:AS c n):O0 c (n+1):=by
 intro X z f J a R C U vs us K b F d r;rcases F.plain with h|⟨e,g,i,j⟩
 ·exact GF B ib K b F d r h
 ·exact GG B ib K b F d r e g i j
end
section
variable {c:Cfg} {X:Fx} {fr:AF} {n m:af} {z:Zs}
theorem Ev.of_cv {u:aE} {us:ae aE} {r:R AV} (h:Cv c X r (.call u ⟨us,[]⟩) z):Ev c X aD (Vz c) r (call u us) z:=by
 rcases h with rfl|h
 ·trivial
 ·induction r using cO with
  |b=>trivial
  |k v a=>
   refine s_ (yt h λd s' q=>?_);cases d with
   |ok e=>cases e with|ret _=>exact q|_=>exact q
   |error _=>exact q
  |x k a=>refine s_ (yt h λd s' q=>?_);cases d with|ok e=>cases e<;>exact q.elim|error _=>exact q
theorem CX.less {k:af} (h:CX c X n z) (a:k<=n):CX c X k z:=⟨h.hh,de (jF a _) h.dep,de (jF (jE 4 a) _) h.un,h.frames,h.sr,h.out⟩
theorem EZ {fd:FuncData}:D8 z [] fd:=λa a e=>bO e
theorem PW (B:gL c) (d:O0 c n) {f:aC} {a:bh} {vs:ae AV} {us:ae aE} (K:CX c X n z) (e:c.fa f=aa a) (r:lX c z vs us):Ev c X aD (Vz c) (cg c.P n f [] vs z.σ) (call (.ref a) us) z:=by refine kN (B.fns _ _ e) λfd b body g h=>?_;exact .of_cv (d X z f [] a fd b body vs us K (K.sr.base _ _ g) h EZ r)
theorem Ul (B:gL c) (H:O0 c n):Kl c (n+1):=by
 intro X z g u vs us K j r;have I:=K.less (eM n);induction g using aN with
 |u id=>
  refine j.bi_e (Ev.of_lf ?_);show Lf c X.A (Vz c) (builtin id vs z.σ) _ z;by_cases w:id="len"
  ·clear j;refine dq w ?_;exact Sx K.sr r
  ·by_cases D:id="sorted"
   ·clear w j;refine dq D ?_;exact B.sorts X.A z vs us K.hh (de (ow (dI (eG _ _) (nO K.un)) (bf 20)) #[0]) K.sr r
   ·by_cases Q:id="isinstance"
    ·refine dq Q ?_;exact J_ K.sr r
    ·unfold builtin;rw[aG w,aG D,aG Q];trivial
 |y n=>exact j.ty_e (.of_lf (J9 K.sr r))
 |f f=>exact j.fn_e λa e=>PW B H I e r
 |o f R=>exact j.clo_e λa fd s body e F S=>.of_cv (H X z f R a fd s body vs us I e F S r)
 |c k=>
  refine j.cls_e λC e=>?_;cases hx:c.P.x k with
  |true=>show Ev c X aD (Vz c) (if c.P.x k=ai then .b else _) _ z;rw[aF hx];trivial
  |false=>
   cases hm:c.P.m k "__init__" with
   |none=>show Ev c X aD (Vz c) (if c.P.x k=ai then .b else(match c.P.m k "__init__" with|some _=>_|none=>.b)) _ z;rw[aG (by rw[hx];decide),hm];trivial
   |some f=>
    show Ev c X aD (Vz c) (if c.P.x k=ai then .b else(match c.P.m k "__init__" with
     |some f=>(cg c.P n f [] (.l (z.σ.length+1)::vs) (z.σ++[.n [],.i k z.σ.length])).bind λr σ=>(match r with|.n=>.k (.l (z.σ.length+1)) σ|_=>.b)
     |none=>.b)) _ z
    rw[aG (by rw[hx];decide),hm];refine cV (B.meth k C _ f e hm) λT U V W=>?_;have J:=B.inH K.sr;refine kN (B.fns _ _ U) λfd s body w D=>?_;clear I j;obtain⟨ρ,σ,d,L,M,tk,os⟩:=z;have g1:Good c [] ⟨ρ,σ,d,L,M,tk,os⟩ ⟨ρ++[d.objs.size],σ++[.n []],d.push mr,L,M,tk,os⟩:=.alloc K.sr mr (.n []) tk (fD ([]) 0 (dF _ rfl) .nil .nil);have p:(ρ++[d.objs.size])[σ.length]?=aa d.objs.size:=vC K.sr _;have N:(d.push mr).objs.size=d.objs.size+1:=rh ..;have g2:Good c [] _ ⟨ρ++[d.objs.size]++[(d.push mr).objs.size],σ++[.n []]++[.i k σ.length],(d.push mr).push (D5 C d.objs.size),L,M,tk,os⟩:=
     .alloc g1.sr (D5 C d.objs.size) (.i k σ.length) tk (fD C d.objs.size (dF _ rfl) e (by rw[bM (aP.mp p).1];exact p))
    have G:=g1.trans g2;have h:(ρ++[d.objs.size]++[(d.push mr).objs.size])[σ.length+1]?=aa (d.objs.size+1):=by have:=vC g1.sr (d.push mr).objs.size;rw[show(σ++[AO.n []]).length=σ.length+1 from ar]at this;rw[this,N]
    rw[aj,aj]at G;rw[aj]at h;have t:=H ⟨X.A.under (.builtin "type.__call__" ⟨.ref C::us,[]⟩),X.l,X.e,X.k⟩ _ f [] T fd s body (.l (σ.length+1)::vs) (.ref (d.objs.size+1)::us)
     ⟨K.hh,by have:=K.dep;exact#[110,this],by have:=K.un;exact#["5niK.gOB{PP;*y.4iL,~~UUoP+",this],K.frames,G.sr,K.out.step G.step λE E q=>nomatch q⟩ (G.sr.base _ _ w) D EZ (.cons (.loc h) (r.step G.step))
    rcases t with t|t
    ·show Ev c X aD (Vz c) ((cg c.P n f [] (.l (σ.length+1)::vs) (σ++([.n []]++[.i k σ.length]))).bind _) _ _;rw[t];trivial
    ·show Ev c X aD (Vz c) ((cg c.P n f [] (.l (σ.length+1)::vs) (σ++([.n []]++[.i k σ.length]))).bind _) _ _;revert t;induction cg c.P n f [] (.l (σ.length+1)::vs) (σ++([.n []]++[.i k σ.length]))using cO with
     |b=>exactλE=>trivial
     |x _ _=>exactλE=>trivial
     |k v Y=>
      induction v using aN with
      |n=>
       refineλt=>s_ (make_core (makes_of J (B.make k C f e hx hm)) (looks_findIn J V) (λself=>bind_fn J self W) (.inl rfl) (yt t λZ s' q=>?_));rcases Z with e|(v'|_|_|_)<;>first|exact q.elim|skip
       refine ba q ?_;clear q;intro O g' rn;exact rn.none_e (wj rfl O (G.trans g') (.loc (g'.step.get _ _ h)))
      |_=>exactλE=>trivial
 |_=>trivial
end
abbrev wC (M:Model) (h:dj) (f:aE):Prop:=∃k,(k=Keeper.frame\/k=Keeper.machine\/k=Keeper.boundFrame)/\Looks M h (keeperOf f) k
section
variable {c:Cfg} {X:Fx} {J:AF} {n m:af} {z:Zs}
theorem zL {h:dj} {a:bh} {fd:FuncData} (e:h.get? a=aa (uA fd)):wC c.M h (.ref a):=aY .frame (.inl rfl) ((Looks.ld (part:=ah) e).andThen .now)
theorem MM (B:gL c) {g:AV} {u:aE} {vs:ae AV} (Z:fz c z) (h:Vz c z g u):mw c.P n g vs z.σ=.b\/wC c.M z.s.heap u:=by
 induction n using gC with
 |zero=>exact .inl rfl
 |succ n=>induction g using aN with|u id=>exact .inr (h.bi_e (aY .machine (.inr (.inl rfl)) (xr rfl)))|y t=>exact .inr (h.ty_e (aY .machine (.inr (.inl rfl)) (xr rfl)))|f f=>exact .inr (h.fn_e λa e=>(B.fns _ _ e).elim λd q=>q.elim λd q=>q.elim λd q=>zL (Z.base _ _ q.1))|o f i=>exact .inr (h.clo_e λa d d d e d d=>zL e)|c k=>exact .inr (h.cls_e λC e=>keeps_K (B.keep _ _ e) z.s.heap (B.inH Z))|_=>exact .inl rfl
theorem wD (pos:Pos) {asts:ae bk}:∀{es:ae IE},fJ (dW m X.k) asts=aa es->(rV pos (lV asts X.e)).any (·.1)=aD/\(rV pos (lV asts X.e)).all (λx=>!x.1)=ai:=by induction asts with|nil=>exactλb=>⟨rfl,rfl⟩|cons a r c=>refineλh=>ob h λg d h=>ob h λi f b=>?_;rw[ru (iR d)];exact c f
theorem xO (i:wB c n) {f:aE} {pre:ae aE} {pos:Pos} {g:ae bk} {es:ae IE} {r:ae AV->St->R AV} (t:fJ (dW m X.k) g=aa es) (H:cM c X J n z)
  (j:∀vs us d,Good c [] z d->cM c X J n d->lX c d vs us->r vs d.σ≠.b->wC c.M d.s.heap f) (k:∀vs us d,Good c [] z d->cM c X J n d->lX c d vs us->Ev c X aD (Vz c) (r vs d.σ) (call f (pre++us)) d):
  Ev c X aD (Vz c) ((ie c.P n J es z.σ).bind r) (callWith pos f pre (rV pos (lV g X.e)) []) z:=by
 have l:((rV pos (lV g X.e)).any (·.1)||([]:ae (au cI×eR aE)).any (·.1.isNone))=aD:=by rw[(wD pos t).1];rfl
 induction g using aV with
 |nil=>
  refine dH (aw t) ?_;clear i;induction n using gC with
  |zero=>trivial
  |succ n=>
   show Ev c X aD (Vz c) (r [] z.σ) _ z;by_cases o:r [] z.σ=.b
   ·rw[o];trivial
   ·exact(k [] [] z (.refl H.sr) H .nil).lift λQ E h=>zm (P:=λh=>wC c.M h f) l (λp q=>q) (evalArgs_nil3 ⟨j [] [] z (.refl H.sr) H .nil o,h⟩)
 |cons a as=>refine Ev.bindR (P:=λs=>wC c.M s.heap f) (λQ E h=>zm (P:=λh=>wC c.M h f) l (λp q=>q) ?_) H (i X J z m pos (a::as) es t H) j k;refine ob t λv u p=>?_;rw[ru (iR u)]at h⊢;exact w' h
theorem C_ {f:bk} {args:ae bk} {pos:Pos} (h:wy f=ah):eval (.Call f args [] pos) X.e=(do callWith pos (<-eval f X.e) [] (rV pos (lV args X.e)) []):=by cases f<;>first|rfl|exact bO h.symm
theorem Um (B:gL c) (s:ig c n) (o:wB c n) (t:Kl c n) {f:bk} {args:ae bk} {pos:Pos} {p:IE} {j:ae IE} (v:wy f=ah) (w:dW m X.k f=aa p) (x:fJ (dW m X.k) args=aa j) (H:cM c X J n z):
  Ev c X aD (Vz c) ((bg c.P n J p z.σ).bind λg σ=>(ie c.P n J j σ).bind λvs σ=>mw c.P n g vs σ) (eval (.Call f args [] pos) X.e) z:=
 .of_eq (C_ v) ((gp s w H).bind H λg u q r l d=>xO o x l (λvs us h a b i y=>(MM B b.sr (d.step a.step)).resolve_left y) λvs us h a b i=>t X h g u vs us b.cx (d.step a.step) i)
set_option tactic.hygienic true in
theorem E0 {o:bk} {name:cI} {k:eR aE} (d:rI o=aD):attributeBase o name X.e k=k:=by
 rcases o with⟨⟩<;>first|rfl|skip
 rename_i f as c pos
 rcases f with⟨⟩<;>first|rfl|skip
 rename_i id p
 rcases as with _|⟨a,as⟩
 ·rcases c with _|⟨q,c⟩
  ·have b:(id !="super")=ai:=aU (!·) (show(id==("super":cI))=aD from d);exact aF (by rw[b];rfl)
  ·rfl
 ·rfl
theorem PX (B:gL c) {base:bk} {pos:Pos} {x:aC} {v:AV} {u:aE} (Z:fz c z) (r:Vz c z v u):Ev c X aD (Vz c) (Ez c.P x v z.σ) (do fC pos;let r<-jL [u] (getAttr u (aZ x) ai);letTemporaryGo base u r;pure r) z:=by
 induction v using aN with
 |l l=>
  refine r.loc_e λa e=>?_;show Ev c X aD (Vz c) (Ey c.P x z.σ z.σ[l]?) _ z;refine SR.loc_e Z e λo ob=>?_;induction o using b8 with
  |i k d=>
   refine Ev.ite λf=>?_;cases h2:z.σ[d]? with
   |none=>trivial
   |some o=>induction o using b8 with|n j=>refine Ap (Cn Z ob h2) λC b ds m I=>?_;exact .of_lf (Lf.oo λv g=>aA (dz (aA (dk (Kj B Z I f g λp tk h=>aA (w8 (aW (ez.val Z tk h))))))))|_=>trivial
  |_=>trivial
 |_=>trivial
theorem Un (B:gL c) (h:ig c n) {o:bk} {name:cI} {pos:Pos} {d:IE} {x:aC} (i:rI o=aD) (to:dW m X.k o=aa d) (j:nm name=aa x) (H:cM c X J n z):
  Ev c X aD (Vz c) ((bg c.P n J d z.σ).bind λv σ=>Ez c.P x v σ) (eval (.Attribute o name pos) X.e) z:=by
 refine dH (pV j) ?_;refine .of_eq (arm_eval_Attribute ..) ?_;rw[E0 i];exact(gp h to H).bind H λv u f g a b=>PX B a.sr b
theorem Uo (B:gL c) (ih:ig c n) (O:wB c n) (ic:Kl c n) {o:bk} {name:cI} {apos pos:Pos} {args:ae bk} {V:IE} {x:aC} {R:ae IE} (hs:rI o=aD) (hp:(apos.endLine==pos.line)=ai) (S:args.length<=20)
  (to:dW m X.k o=aa V) (tx:nm name=aa x) (W:fJ (dW m X.k) args=aa R) (H:cM c X J n z):Ev c X aD (Vz c) (bg c.P (n+1) J (.h V x R) z.σ) (eval (.Call (.Attribute o name apos) args [] pos) X.e) z:=by
 refine dH (pV tx) ?_;refine .of_eq (arm_eval_Call ..) ?_;rw[E0 hs];refine(gp ih to H).bind H λov u w Wd j y=>.stand ?_;have pa:=wD pos W;have L:methodCallForm (args.length+([]:ae Keyword).length) (rV pos (lV args X.e)) (backToKw pos (zo [] X.e))=ai:=by unfold methodCallForm;rw[pa.2,aI (show args.length+([]:ae Keyword).length+(if(backToKw pos (zo [] X.e)).isEmpty then 0 else 1)<30 from de S #[0])];rfl
 have U:xt ai o X.e apos pos=pure pos:=by unfold xt;rw[aF (by rw[hp];rfl)]
 unfold methodCall;rw[L];have tail:∀{f:aE} {first:ae aE} {Q E s},bp c.M X.A (callWith pos f first (rV pos (lV args X.e)) []) Q E s->bp c.M X.A (xt ai o X.e apos pos>>=λD=>callWith D f first (rV pos (lV args X.e)) (backToKw pos (zo [] X.e))) Q E s:=λh=>aA (rE U h);cases q:AA w.σ ov with
 |none=>refine Ev.opts λid h0=>?_;refine vo (PQ h0 j.sr y) λT hT pl slot Y hd=>?_;exact(xO (f:=.builtin id) (pre:=[u]) (pos:=pos) O W j (λv v v v v v v=>aY .machine (.inr (.inl rfl)) (xr rfl)) λvs us F G t K=>.of_lf (My B.sm (H.ok.room 7 #[0]) t.sr (y.step G.step) K)).lift λQ E h=>aA (dk (getMethod_builtin hT pl slot Y hd (tail h)))
 |some p=>
  refine Ev.opts λf N=>?_;induction ov using aN with
  |l l=>
   revert q;refine y.loc_e λa ha=>?_;show xF w.σ[l]?=aa p->_;refine SR.loc_e j.sr ha λV ob=>?_;induction V using b8 with
   |i k d=>
    intro q;obtain rfl:=aw q;revert N;cases h2:w.σ[d]? with
    |none=>exactλh=>bO h
    |some o2=>induction o2 using b8 with|n fs=>refineλN=>g_ (p:=!c.P.x k&&(fs.lookup x).isNone) N λhc N=>nk hc λZ h4=>?_;refine Ap (Cn j.sr ob h2) λC b ds nn I=>?_;have Z:c.P.x k=aD:=AL Z;refine ba (B.meth k C x f I.ca N) λg hg v=>?_;refine kN (B.fns _ _ hg) λfd We body q1 q2=>?_;refine(xO (f:=.ref g) (pre:=[.ref a]) (pos:=pos) (r:=λvs σ=>mw c.P n (.f f) (.l l::vs) σ) O W j (λv v F v t v v=>zL (t.sr.base _ _ q1)) λvs us F G t K=>ic X F (.f f) (.ref g) _ _ t.cx (.fn hg) (.cons (.loc (G.step.get _ _ ha)) K)).lift λQ E h=>aA (dk (MH B j.sr I Z N h4 λg' Wc=>?_));obtain rfl:g=g':=aw (hg.symm.trans Wc);exact tail h|_=>exactλh=>bO h
   |_=>exactλh=>bO h
  |_=>exact bO q
end
noncomputable def vH (a:gP) (pos:Pos):ae (au bk)->ae bk->ae (eR aE×eR aE)
 |some k::b,v::vs=>(eval k a,do let x<-eval v a;fC pos;pure x)::vH a pos b vs
 |_,_=>[]
abbrev V6 (c:Cfg):nj (ae AV×ae AV) (ae (aE×aE)):=λz a b=>lX c z a.1 (b.map (·.1))/\lX c z a.2 (b.map (·.2))
noncomputable abbrev SH (f:bk->au IE) (o:au bk):au IE:=o.bind f
abbrev E1 (c:Cfg) (n:af):Prop:=∀(X:Fx) (fr:AF) (z:Zs) (m:af) (pos:Pos) (a:ae (au bk)) (b:ae bk) (d vs:ae IE),fJ (SH (dW m X.k)) a=aa d->fJ (dW m X.k) b=aa vs->cM c X fr n z->Ev c X aD (V6 c) (EB c.P n fr d vs z.σ) (evalPairs (vH X.e pos a b)) z
section
variable {c:Cfg} {X:Fx} {C:AF} {n m:af} {z:Zs} {f:bk->au IE}
theorem E2 (a:gP) (pos:Pos) {c:ae (au bk)}:∀{e:ae IE} {b:ae bk},fJ (SH f) c=aa e->c.length=b.length->
  (evalEachOpt c a).zip ((evalEach b a).map λv=>do let x<-v;fC pos;pure x)=(vH a pos c b).map (λp=>(aa p.1,p.2))/\(vH a pos c b).length=c.length:=by
 induction c with
 |nil=>exactλ{_ b} _ d=>by induction b using aV with|nil=>exact⟨rfl,rfl⟩|cons _ _=>exact nomatch d
 |cons k r g=>
  intro e b h d;refine ob h λm tk h=>ob h λn i o=>?_;induction k using cX with
  |none=>exact bO tk
  |some k=>induction b using aV with|nil=>exact nomatch d|cons v vs=>refine dp (g i (f_ d)) λj l=>?_;exact⟨aU (_::·) j,aU (·+1) l⟩
theorem SI (O:ig c n) (J:E1 c n):E1 c (n+1):=by
 intro X C z m pos I p V vs tk d H;have H:=H.less (eM n);induction I using aV with
 |nil=>refine dH (aw tk) ?_;induction p using aV with|nil=>obtain rfl:=aw d;exact Ev.pure H.sr ⟨.nil,.nil⟩|cons v p=>refine ob d λK s d=>ob d λo s d=>?_;obtain rfl:=aw d;trivial
 |cons k I=>
  refine ob tk λT t tk=>ob tk λy L tk=>?_;refine dH (aw tk) ?_;induction k using cX with
  |none=>exact bO t
  |some k=>induction p using aV with|nil=>obtain rfl:=aw d;trivial|cons v p=>refine ob d λK M d=>ob d λo N d=>?_;obtain rfl:=aw d;show Ev _ _ _ _ ((bg c.P n C T z.σ).bind λa σ=>(bg c.P n C K σ).bind λb σ=>(EB c.P n C y o σ).bind λr σ=>.k (a::r.1,b::r.2) σ) (evalPairs ((eval k X.e,do let x<-eval v X.e;fC pos;pure x)::vH X.e pos I p)) _;rw[evalPairs];refine(gp O t H).bind H λa u f R g A=>?_;have U:Ev c X aD (Vz c) (bg c.P n C K f.σ) (do let x<-eval v X.e;fC pos;pure x) f:=(gp O M g).lift λQ E h=>aA (bS h (λs s q=>aA (dz (aW q))) λs s e=>e);exact U.hold.bind g λb w B D i F=>(Ev.hold (J X C B m pos I p y o L N i)).bind i λr W S j G l=>.pure G.sr ⟨.cons ((A.step D.step).step j.step) l.1,.cons (F.step j.step) l.2⟩
variable {l:af}
theorem MN {A:cQ} {E:aE->aM->Prop} {d:bh} {i:St} (B:A.units+6<cLine) {j:ae (aE×aE)}:∀{e vs:ae AV} {z:Zs} {Q:PUnit->aM->Prop},uu l e vs z.σ=.k () i->fz c z->z.ρ[l]?=aa d->
  lX c z e (j.map (·.1))->lX c z vs (j.map (·.2))->(∀f s',Good c [] z ⟨f,i,s'⟩->f[l]?=aa d->Q ⟨⟩ s')->bp c.M A (forIn j PUnit.unit λx C=>(do yV d x.1 x.2;pure (ij PUnit.unit))) Q E z.s:=by
 induction j with
 |nil=>intro e vs z Q h X hd n o r;obtain rfl:e=[]:=e_.mp n.length;obtain rfl:vs=[]:=e_.mp o.length;rw[List.forIn_nil];obtain rfl:=(R.k.inj h).2;exact aW (r _ _ (.refl X) hd)
 |cons p j D=>
  intro e vs z Q h X hd n o r;induction e using aV with
  |nil=>exact nomatch n.length
  |cons k e=>
   induction vs using aV with
   |nil=>exact nomatch o.length
   |cons v vs=>
    have t:Vz c z k p.1/\lX c z e (j.map (·.1)):=by cases n with|cons a b=>exact⟨a,b⟩
    have u:Vz c z v p.2/\lX c z vs (j.map (·.2)):=by cases o with|cons a b=>exact⟨a,b⟩
    have h:(l9 l k v z.σ).bind (λC σ=>uu l e vs σ)=.k () i:=h;cases q:l9 l k v z.σ with|b=>rw[q]at h;exact nomatch h|x _ _=>rw[q]at h;exact nomatch h|k w m=>rw[q]at h;rw[ql];refine aA (aA (Ck q X B hd t.1 u.1 λF tk g=>aW ?_));exact D (z:=⟨z.ρ,m,{z.s with heap:=F,toks:=tk}⟩) h g.sr hd (t.2.step g.step) (u.2.step g.step) λf s' g'=>r f s' (g.trans g')
theorem Kn {c:ae AV}:∀{vs:ae AV} {σ b:St} {k:aC},uu l c vs σ≠.x k b:=by
 induction c with
 |nil=>exactλ{vs σ b k}=>by cases vs<;>exactλh=>nomatch h
 |cons a c d=>
  intro vs σ b k;induction vs using aV with
  |nil=>exactλh=>nomatch h
  |cons v vs=>show(l9 l a v σ).bind (λe σ=>uu l c vs σ)≠_;induction l9 l a v σ using cO with|k _ _=>exact d|_=>exactλh=>nomatch h
theorem Vl (B:E1 c n) {t:ae (au bk)} {j:ae bk} {pos:Pos} {u vs:ae IE} (tk:fJ (SH (dW m X.k)) t=aa u) (I:fJ (dW m X.k) j=aa vs) (H:cM c X C n z):
  Ev c X aD (Vz c) (bg c.P (n+1) C (.d u vs) z.σ) (eval (.Dict t j pos) X.e) z:=by
 refine Ev.ite λo=>?_;have v:=zE tk;have D:=zE I;have E:Good c [] z ⟨z.ρ++[z.s.heap.objs.size],z.σ++[.d []],{z.s with heap:=z.s.heap.push mr,toks:=z.s.toks}⟩:=.alloc H.sr mr (.d []) z.s.toks (fD ([]) 0 (dF _ rfl) .nil .nil);have g:=vC H.sr z.s.heap.objs.size;have O:=H.step E;refine dp (E2 X.e pos tk (by exact aB #["CFIQ9~w|8'_w?d})",o.2,v,D] #["CFIQ9WS^`^thL9~k",o.2,v,D])) λK f=>?_;refine .of_eq (arm_eval_Dict ..) ?_;rw[K];refine .stand ?_;have h:=B X C _ m pos t j u vs tk I O;revert h;cases L:EB c.P n C u vs (z.σ++[.d []])with
 |b=>exactλy=>trivial
 |x _ _=>exactλy=>trivial
 |k p a=>
  intro h;show Ev c X aD (Vz c) ((uu z.σ.length p.1 p.2 a).bind λy r=>.k (.l z.σ.length) r) _ z;cases hd:uu z.σ.length p.1 p.2 a with
  |b=>trivial
  |x q Q=>exact bJ hd Kn
  |k w i=>
   refine Ev.of_lf (show bp c.M X.A _ (ez c (Vz c) z (.l z.σ.length) i) pW z.s from ?_);induction t using aV with
   |nil=>obtain rfl:=aw tk;obtain rfl:vs=[]:=e_.mp o.2.symm;obtain rfl:j=[]:=e_.mp D;induction n using gC with|zero=>exact nomatch L|succ n=>refine dp (R.k.inj (show R.k ([],[]) (z.σ++[.d []])=R.k p a from L)) λS T=>?_;subst S T;refine dH ((R.k.inj hd).2) ?_;show bp _ _ newDict _ _ _;unfold newDict;exact ju (aY _ E (.loc g))
   |cons k U=>
    have V:vH X.e pos (k::U) j≠[]:=λe=>by rw[e]at f;exact nomatch f
    rw[dictDisplay_pairs _ V #["^Cvj*8~%m{Cj06|F1",o.1,v,f]];refine aA ?_;unfold subDict;refine aA (wpAny_alloc (aA (dk ?_)));rw[aF #["4XeqC7OJ=fDEjxF6l",o.1,v,f]];refine aA (bS h (λK N q=>?_) λy y e=>e.elim);refine cV q ?_;clear q;intro F g1 W Y;exact dk (aA (MN (H.ok.room 6 #[0]) hd g1.sr (g1.step.get _ _ g) W Y λG s' g' e=>aW (aW (aW (aY G ((E.trans g1).trans g') (.loc e))))))
end
section
variable {c:Cfg} {X:Fx} {fr:AF} {n m:af} {z J:Zs} {ex:ae bh} {E:aE->aM->Prop}
variable {v:AV} {x:cI} {sc:Scope} {R h:dj} {y:aC} {u:aE} {U:gP} {ko:KO} {t:Tok} {z':Zs}
theorem tN {a:bh} {m:cI->au aE} (x:h.Ns a m):∃o,h.get? a=aa o/\¬gK o/\∀vs,o.data≠.fields vs:=by refine lq x ?_;clear x;intro o b c e d _;exact dS o e (mB (by rw[d];rfl)) (λvs q=>nomatch d.symm.trans q)
theorem qN {I:bh} {m:cI->au aE} (a:h.Ns I m):loose h I:=(tN a).elim λb q=>EK q.1 q.2.1
theorem Good.sameBut {L:bh} {m:cI->au aE} (Z:fz c z) (d:z.s.heap.Ns L m) (b:gQ L z.s.heap R) (g:∃o,R.get? L=aa o) (i:L∉z.ρ) (j:c.h₀.get? L=ah) (t:Tok):Good c [L] z ⟨z.ρ,z.σ,{z.s with heap:=R,toks:=t}⟩:=
 ⟨⟨aY ([]) ((aJ _).symm) (λk h=>nomatch h),λa o k l e=>(b.2 a λq=>l (aL.mpr q)).trans e,kP (qN d) b.extBut,λa o e=>by
  by_cases q:a=L
  ·rw[q];exact g
  ·exact⟨o,(b.2 a q).trans e⟩⟩,Z.other b.extBut i (qN d) j,rfl,rfl,rfl⟩
theorem IC {x:aC} (l:ae (aC×AV)):(bA x v l).lookup y=if y=x then aa v else l.lookup y:=by
 induction l with
 |nil=>
  rw[fP];by_cases h:y=x
  ·rw[aF h,eh.mpr h]
  ·rw[aG h,fW.mpr h]
 |cons e r b=>
  obtain⟨k,w⟩:=e;unfold bA;by_cases h:x=k
  ·refine dH h ?_;rw[aF rfl,fP,fP];by_cases h2:y=x
   ·rw[aF h2,eh.mpr h2]
   ·rw[aG h2,fW.mpr h2]
  ·rw[aG h,fP,fP,b];by_cases h2:y=k
   ·have a:¬y=x:=λq=>h (q.symm.trans h2);rw[eh.mpr h2,aG a,aG a]
   ·rw[fW.mpr h2]
theorem tP (ty:nm x=aa y) (p:X.k x=aa .local) (ok:l_ c X n) (Z:fz c z) (f:jy c X fr z) (r:Vz c z v u) {A:cQ} {Q:dt->aM->Prop}
  (t:∀R tk,Good c [X.e.locals] z ⟨z.ρ,z.σ,{z.s with heap:=R,toks:=tk}⟩->jy c X {fr with v:=bA y v fr.v} ⟨z.ρ,z.σ,{z.s with heap:=R,toks:=tk}⟩->gQ X.e.locals z.s.heap R->Q () {z.s with heap:=R,toks:=tk}):bp c.M A (storeName X.e x u) Q E z.s:=by
 obtain rfl:=pV ty;refine ba f.locs λm d g=>?_;refine wpAny_storeName_local ((ok.kof _).trans p) d (λR j h=>?_) (by rw[ok.kind];rfl);have l:=kP (qN d) h.extBut;refine t R _ (.sameBut Z d h ((tN j).elim λo q=>⟨o,q.1⟩) f.lnew ok.lbase _) ⟨aY _ j (λw B b=>?_),f.cells,f.lnew⟩ h;rw[IC]at b;by_cases q:w=y
 ·rw[aF q]at b;exact aY u (aF (aU _ q)) (aw b▸r.map (λi i e=>e) l)
 ·rw[aG q]at b;refine ba (g w B b) λC D F=>?_;exact aY C ((aG λe=>q (nD e)).trans D) (F.map (λi i e=>e) l)
theorem mT (ty:nm x=aa y) (b:X.k x=aa .local) (ok:l_ c X n) (Z:fz c z) (f:jy c X fr z) (d:Vz c z v u) {g:Pos} {A:cQ} {Q:dt->aM->Prop}
  (h:∀R tk,Good c [X.e.locals] z ⟨z.ρ,z.σ,{z.s with heap:=R,toks:=tk}⟩->jy c X {fr with v:=bA y v fr.v} ⟨z.ρ,z.σ,{z.s with heap:=R,toks:=tk}⟩->gQ X.e.locals z.s.heap R->Q () {z.s with heap:=R,toks:=tk}):bp c.M A (rW (.Name x g) X.e u) Q E z.s:=by
 rw[arm_assign_Name];exact aA (dz (wa (tP ty b ok Z f d h)))
noncomputable def AW (a:ae (cI×q9)) (U:gP):ae (cI×bh):=((a.filter λy=>y.2==.free).map λy=>(y.1,(U.cells.lookup y.1).getD 0)).reverse
theorem E3 (U:gP) (c:ae (cI×q9)):∀d:ae (cI×bh),(∀y∈c,y.2=.free->∃b,U.cells.lookup y.1=aa b)->
  (forIn c d λx i=>(if(x.2==lA)=ai then(do let a<-cellOf U x.1;pure (ij ((x.1,a)::i)))else pure (ij i):eR (dR (ae (cI×bh)))))=pure (AW c U++d):=by
 induction c with
 |nil=>exactλl l=>rfl
 |cons e r m=>
  obtain⟨y,k⟩:=e;intro d h;have f:=λd=>m d λz n=>h z (aK _ n);rw[ql];unfold AW at f⊢;cases g:k==lA with
  |true=>
   refine ck (h (y,k) aH (eq_of_beq g)) λb j=>?_;have o:cellOf U y=pure b:=by unfold cellOf;rw[j]
   rw[aF rfl,o];simp only[pure_bind];rw[f];simp[g,j]
  |false=>rw[aG eT,pure_bind];exact(f d).trans (by simp[g])
theorem ID {scope:Scope} (h:∀y∈scope.names,y.2=.free->∃b,U.cells.lookup y.1=aa b):BW scope U=pure (AW scope.names U):=by
 unfold BW;have:=E3 U scope.names [] h;rw[aJ]at this;rw[<-this]
 first
  |rfl
  |simp only[bind_pure]
theorem DN {α β:Type} [BEq α] [uT α] {x:α} {b:β} {l:ae (α×β)} (a:∀p∈l,p.1=x->p.2=b) (c:x∈l.map (·.1)):l.lookup x=aa b:=by cases q:l.lookup x with|none=>exact bJ c (u9 q)|some v=>exact aU aa (a _ (ei q) rfl)
theorem xP {names:ae (cI×q9)} {b:bh} (d:(x,lA)∈names) (e:U.cells.lookup x=aa b):(AW names U).lookup x=aa b:=by refine DN (λp c f=>?_) (bT.mpr (aY (x,(U.cells.lookup x).getD 0) (dE.mpr (bT.mpr (aY (x,.free) (lM.mpr ⟨d,rfl⟩) rfl))) rfl));refine ba (bT.mp (dE.mp c)) λy g a=>?_;clear c;obtain rfl:=a;rw[show y.1=x from f,e];rfl
structure Co (ko:KO) (sc:Scope):Prop where
 kind:sc.kind=.function
 nc:∀y∈sc.names,y.2≠.cell
 loc:∀y∈sc.names,y.2=.local->sc.names.lookup y.1=aa .local
 free:∀y∈sc.names,y.2=.free->uC ko y.1
theorem y_ (h:Ca ko sc=ai):Co ko sc:=by
 refine nk h λc b=>?_;have b:=λy a=>br.mp (cy.mp b y a);refine⟨eq_of_beq c,λy a=>oz.mp (br.mp (b y a).1).1,λy a e=>?_,λy a e=>?_⟩
 ·exact(m8.mp (br.mp (b y a).1).2).elim (λq=>bJ e (oz.mp q)) eq_of_beq
 ·exact(m8.mp (b y a).2).elim (λq=>(m8.mp q).elim (λq=>bJ e (oz.mp q)) λq=>.inl (eq_of_beq q)) λq=>.inr (eq_of_beq q)
noncomputable abbrev cx (X:Fx) (sc:Scope) (C:bh):Fx:=⟨X.A,X.l,compEnvC sc (AW sc.names X.e) C X.e,inner X.k sc⟩
theorem wE (ok:l_ c X n) (sc:Scope) (x:cI):(relabel sc X.e).names.lookup x=inner X.k sc x:=by
 refine aU (List.lookup x) (ng λy a=>?_);clear a;obtain⟨n,k⟩:=y;have b:(X.e.scope.kind==ScopeKind.function)=ai:=by rw[ok.kind];rfl
 simp only[b,sh,ok.kof]
set_option tactic.hygienic true in
theorem AX (S:Co ko sc) (h:uC (inner ko sc) x):(x,lA)∈sc.names:=by
 have:∀k,inner ko sc x=aa k->(k=.cell\/k=.free)->(x,lA)∈sc.names:=by
  intro k g a;refine ba (bT.mp (ei g)) λb c e=>?_;obtain⟨n,i⟩:=b;dsimp only at e;split at e
  ·rename_i j
   refine dp (eK e) λd l=>?_;exact d▸(show i=.free from eq_of_beq (br.mp j).1)▸c
  ·refine dp (eK e) λd f=>?_;exact a.elim (λq=>bJ (f.trans q) (S.nc _ c)) λq=>d▸(f.trans q)▸c
 exact h.elim (λh=>this _ h (.inl rfl)) λh=>this _ h (.inr rfl)
theorem PY (ok:l_ c X n) (S:Co X.k sc) {C:bh} (d:c.h₀.get? C=ah):l_ c (cx X sc C) n:=
 ⟨S.kind,wE ok sc,ok.glob,ok.bt,λx e=>have a:=AX S e;(ok.cal x (S.free _ a rfl)).elim λb h=>⟨b,xP a h⟩,d,ok.hh,ok.dep,ok.un,ok.frames⟩
theorem PZ (f:jy c X fr z) (S:Co X.k sc) {C:bh} {d:cI->au aE} (g:J.s.heap.Ns C d) (i:C∉J.ρ) (get:∀(k:af) (a:bh),z.ρ[k]?=aa a->J.ρ[k]?=aa a):jy c (cx X sc C) ⟨[],fr.c⟩ J:=
 ⟨aY d g (λj j h=>bO h),λx k l m=>have e:=AX S m;(f.cells x k l (S.free _ e rfl)).elim λb h=>aY b (xP e h.1) (get _ _ h.2),i⟩
theorem Cp {e:bk} (h:xM e=ai) (x:aE):foldedSetIterable e X.e x=pure x:=by cases e<;>first|rfl|exact ff h
structure kQ (c:Cfg) (ex:ae bh) (J:Zs) (I:bh) (P:af->fK->Prop) (X:Fx) (fr:AF) (i:af) (z:Zs):Prop where
 good:Good c ex J z
 frm:jy c X fr z
 out:pC c X.l z
 it:IT I P i z.s.heap
 iI:I∉z.ρ
variable {I:bh} {src:au af} {xs:ae AV} {P:af->fK->Prop} {i:af}
theorem kQ.here (L:kQ c ex J I P X fr i z) (ok:l_ c X n):cM c X fr n z:=⟨ok,L.good.sr,L.frm,L.out⟩
theorem jy.keep (f:jy c X fr z) (l:loose z.s.heap I) (a:oU I z.s.heap R) (d:I≠X.e.locals):jy c X fr ⟨z.ρ,z.σ,{z.s with heap:=R,toks:=t}⟩:=
 f.locs.elim λm q=>⟨aY m (Ns.at q.1 λo e=>a _ o (fR d) e) (λx v e=>(q.2 x v e).elim λu r=>aY u r.1 (r.2.map (λg g e=>e) (kP l a))),f.cells,f.lnew⟩
theorem pC.keep {l:ae gP} (f:pC c l z) (d:oU I z.s.heap R) (g:∀e∈l,I≠e.locals):pC c l ⟨z.ρ,z.σ,{z.s with heap:=R,toks:=t}⟩:=λe b=>
 have q:=f e b
 q.obj.elim λo r=>⟨q.nm,q.fr,q.new,q.base,o,d _ o (fR (g e b)) r.1,r.2⟩
theorem xQ {A:cQ} (h:AR c A J I src xs P) (b:J.s.heap.get? I=ah) (k:c.h₀.get? I=ah) (f:I≠X.e.locals) (j:∀e∈X.l,I≠e.locals) (L:kQ c ex J I P X fr i z) (g:dU src xs z.σ=ai) {Q:au aE->aM->Prop}
  (m:∀x v R tk,xs[i]?=aa x->kQ c ex J I P X fr (i+1) ⟨z.ρ,z.σ,{z.s with heap:=R,toks:=tk}⟩->Vz c ⟨z.ρ,z.σ,{z.s with heap:=R,toks:=tk}⟩ x v->Q (aa v) {z.s with heap:=R,toks:=tk})
  (n:∀R,xs.length<=i->Good c ex J ⟨z.ρ,z.σ,{z.s with heap:=R}⟩->jy c X fr ⟨z.ρ,z.σ,{z.s with heap:=R}⟩->Q ah {z.s with heap:=R}):bp c.M A (yo (.ref I)) Q E z.s:=by
 have lo:=L.it.elim λo q=>EK q.1 (h.loose _ _ q.2);cases hx:xs[i]? with|some x=>exact h.next i x ex z Q E hx L.good.sr L.good.step g L.it λv R tk p r d=>m x v R tk hx ⟨L.good.other d.extBut b lo L.iI k tk,L.frm.keep lo d.extBut f,L.out.keep d.extBut j,r,L.iI⟩ (p.map (λt t e=>e) (kP lo d.extBut))|none=>exact h.done ex z i Q E (ny.mp hx) L.good.sr L.good.step g L.it λR d=>n R (ny.mp hx) (L.good.other d b lo L.iI k z.s.toks) (L.frm.keep lo d f)
theorem kQ.step {ex':ae bh} {a:AF} (L:kQ c ex J I P X fr i z) (g:Good c ex' z z') (f:jy c X a z') (o:pC c X.l z') (b:I∉ex') (d:∀x∈ex',x∈ex\/J.s.heap.get? x=ah):kQ c ex J I P X a i z':=
 L.it.elim λob q=>⟨L.good.transX g d,f,o,aY ob (g.step.ext _ ob L.iI b q.1) q.2,g.step.new_not q.1 L.iI⟩
theorem kQ.step0 (L:kQ c ex J I P X fr i z) (g:Good c [] z z'):kQ c ex J I P X fr i z':=
 L.step g (L.frm.step g.step λq=>nomatch q) (L.out.step g.step λa a q=>nomatch q) (λq=>nomatch q) λa q=>nomatch q
theorem AY (ex:ae bh) (d:items v z.σ=aa (xs,src)) (H:cM c X fr n z) (r:Vz c z v u) {Q:aE->aM->Prop}
  (i:∀(I:bh) (P:af->fK->Prop) (s':aM),AR c X.A z I src xs P->z.s.heap.get? I=ah->c.h₀.get? I=ah->I≠X.e.locals->(∀e∈X.l,I≠e.locals)->kQ c ex z I P X fr 0 ⟨z.ρ,z.σ,s'⟩->Q (.ref I) s'):bp c.M X.A (rU u) Q E z.s:=by
 refine Ho d H.ok.hh H.sr r λo P tk j k p=>?_;have f:=lP z.s.heap;have g:Good c ex z ⟨z.ρ,z.σ,{z.s with heap:=z.s.heap.push o,toks:=tk}⟩:=.push H.sr o tk;have h:Good c [] z ⟨z.ρ,z.σ,{z.s with heap:=z.s.heap.push o,toks:=tk}⟩:=.push H.sr o tk;have nl:∀{a ob},z.s.heap.get? a=aa ob->z.s.heap.objs.size≠a:=λe q=>gF f (q▸e);exact i _ P _ j f (H.sr.fresh_new f) (H.fr.locs.elim λm q=>(tN q.1).elim λo q=>nl q.1) (λe d=>(H.out e d).obj.elim λo q=>nl q.1) ⟨g,(H.step h).fr,(H.step h).out,aY o (dF _ p) k,H.sr.size⟩
end
end
section
open PySem PySem.W PyProof.Rows PySem.SeqAt
noncomputable abbrev Body:=gP->bh->(aM->Prop)->(aE->aM->Prop)->aM->Prop
structure wF (c:Cfg) (A:cQ) (ce:bk) (x:cI) (px:Pos) (body:Body):Prop where
 loop:∀(P:af->aM->Prop) (it:aE) (D:bh) (env:gP) (R:v_->aM->Prop),
  (∀k s,P k s->bp c.M A (yo it) (λr s₁=>match r with
   |none=>R (.ok .next) s₁
   |some v=>bp c.M A (rW (.Name x px) env v) (λu0 s₂=>body env D (λs=>∃m,m<k/\P m s) (notedBy c.M A env λe s'=>R (.error e) s') s₂) (notedBy c.M A env λe s'=>R (.error e) s') s₁) (notedBy c.M A env λe s'=>R (.error e) s') s)->
  ∀n s,P n s->lB c.M A (.compLoop ce 0 it (.ref D) env) R s
 start:∀(it:aE) (D:bh) (env:gP) (R:v_->aM->Prop) (s:aM),lB c.M A (.compLoop ce 0 it (.ref D) env) R s->(∀E Q,(∀it',it'=it->Q it' s)->bp c.M A (rU it) Q E s)->lB c.M A (.compStart ce 0 it (.ref D) env) R s
variable {U:au af} {all:ae AV} {turn:AV->St->R dt} {u:dt} {σ J:St}
theorem wG {x:AV} {xs:ae AV} (h:fp U all turn (x::xs) σ=.k u J):dU U all σ=ai/\∃a,turn x σ=.k () a/\fp U all turn xs a=.k u J:=by
 have h:(if dU U all σ=ai then(turn x σ).bind λd σ=>fp U all turn xs σ else .b)=.k u J:=h;by_cases q:dU U all σ=ai
 ·rw[aF q]at h;refine⟨q,?_⟩;cases c:turn x σ with|k w a=>rw[c]at h;exact aY a rfl h|b=>rw[c]at h;exact nomatch h|x _ _=>rw[c]at h;exact nomatch h
 ·rw[aG q]at h;exact nomatch h
theorem xR (h:fp U all turn [] σ=.k u J):dU U all σ=ai/\J=σ:=by
 have h:(if dU U all σ=ai then R.k () σ else .b)=.k u J:=h;by_cases q:dU U all σ=ai
 ·rw[aF q]at h;exact⟨q,(R.k.inj h).2.symm⟩
 ·rw[aG q]at h;exact nomatch h
theorem Cq {α:Type} {xs:ae α} {i:af} {a:α} (b:xs[i]?=aa a):xs.drop i=a::xs.drop (i+1):=by refine ck (aP.mp b) λh e=>?_;rw[cD h,e]
theorem za {l:ae AV} (h:fp U all turn l σ=.k u J):dU U all σ=ai:=by induction l using aV with|nil=>exact(xR h).1|cons a r=>exact(wG h).1
noncomputable abbrev AZ (c:Cfg) (X:Fx) (sc:Scope) (fr:AF) (n:af) (y:aC) (l:af) (f:AV->St->R dt) (body:Body):Prop:=∀(C D:bh) (z:Zs) (a:AV) (b:St) (G:aM->Prop) (E:aE->aM->Prop),C∉z.ρ->c.h₀.get? C=ah->(∀e∈X.l,e.locals≠C)->
 cM c (cx X sc C) ⟨[(y,a)],fr.c⟩ n z->z.ρ[l]?=aa D->f a z.σ=.k () b->(∀d s',Good c [C] z ⟨d,b,s'⟩->jy c (cx X sc C) ⟨[],fr.c⟩ ⟨d,b,s'⟩->G s')->body (cx X sc C).e D G E z.s
section
variable {c:Cfg} {X:Fx} {fr:AF} {n m:af} {z:Zs}
noncomputable abbrev A0 (c:Cfg) (fr:AF) (n:af) (a:IE) (b:AO) (d:af->AV->St->R dt) (σ:St):R AV:=(bg c.P n fr a σ).bind λs σ=>(opt σ (items s σ)).bind λxs σ=>(fp xs.2 xs.1 (d σ.length) xs.1 (σ++[b])).bind λe J=>.k (.l σ.length) J
noncomputable abbrev vI (c:Cfg) (X:Fx) (z:Zs) (r:R AV) (use:au (aE->eR dt)) (Q:aE->aM->Prop):Prop:=
 ∀(v:AV) (u:aE) (C:bh) (a:cI->au aE) (z':Zs),r=.k v z'.σ->Good c [] z z'->z'.s.heap.Ns C a->z.s.heap.get? C=ah->C∉z'.ρ->c.h₀.get? C=ah->Vz c z' v u->compPost c.M X.A pW use Q u C (.ok .next) z'.s
theorem wH (ih:ig c n) {ce iter:bk} {sc:Scope} {p0:Pos} {x:cI} {px:Pos} {y:aC} {g:gx} {gs:ae gx} {acc:fK} {K:AO} {B:eR aE} {O:af->AV->St->R dt} {body:Body} {T:IE} {use:au (aE->eR dt)} {Q:aE->aM->Prop}
  (Ru:wF c X.A ce x px body) (Wj:clausesOf ce=g::gs) (hg:g.iter=iter) (S:Co X.k sc) (hx:AH sc x=ai) (tx:nm x=aa y) (ti:dW m X.k iter=aa T) (H:cM c X fr n z)
  (Wd:∀(s:aM) (Q:aE->aM->Prop),Q (.ref s.heap.objs.size) {s with heap:=s.heap.push acc}->bp c.M X.A B Q pW s) (Wk:∀(ρ:ae bh) (h:dj),OR c (ρ++[h.objs.size]) (h.push acc) h.objs.size K)
  (hB:∀l,AZ c X sc fr n y l (O l) body) (fin:vI c X z (A0 c fr n T K O z.σ) use Q):
  A0 c fr n T K O z.σ=.b\/bp c.M X.A (xu ce sc X.e p0 B aD (eval iter X.e) use) Q pW z.s:=by
 have hit:=gp ih ti H;revert hit fin;unfold A0;induction bg c.P n fr T z.σ using cO with
 |b=>exactλt t=>.inl rfl
 |x _ _=>exactλt t=>.inl rfl
 |k sv f=>
  intro fin hit;have fin:vI c X z ((opt f (items sv f)).bind λxs σ=>(fp xs.2 xs.1 (O σ.length) xs.1 (σ++[K])).bind λt J=>.k (.l σ.length) J) use Q:=fin;show((opt f (items sv f)).bind λxs σ=>(fp xs.2 xs.1 (O σ.length) xs.1 (σ++[K])).bind λt J=>R.k (AV.l σ.length) J)=.b\/_;cases h2:items sv f with
  |none=>exact .inl rfl
  |some p=>
   obtain⟨xs,U⟩:=p;rw[h2]at fin;have fin:vI c X z ((fp U xs (O f.length) xs (f++[K])).bind λt J=>.k (.l f.length) J) use Q:=fin;show((fp U xs (O f.length) xs (f++[K])).bind λt J=>R.k (AV.l f.length) J)=.b\/_;cases h3:fp U xs (O f.length) xs (f++[K])with
   |b=>exact .inl rfl
   |x _ _=>exact .inl rfl
   |k w J=>
    rw[h3]at fin;refine .inr (wpAny_comprehension_free Wj (λv=>by rw[hg];exact Cp (iR ti) v) (ID λy hy e=>H.ok.cal _ (S.free y hy e)) S.kind S.loc ?_);refine bS hit (λu d q=>?_) λt t e=>e;refine ba q ?_;clear q;intro j g1 r1;have H1:=H.step g1;refine Ho h2 H.ok.hh g1.sr r1 λo P tk It h0 Wl=>Wd _ _ ?_;refine wpAny_newFunctionEnv S.nc (λt h=>nomatch h) (λW Wm Wn=>?_) S.kind;have k1:∀a o',d.heap.get? a=aa o'->(d.heap.push o).get? a=aa o':=kA o;have keep:∀a o',((d.heap.push o).push acc).get? a=aa o'->W.get? a=aa o':=λb o' e=>(Wn.2 b (j2 (jn e))).trans (bN _ e);have hI:d.heap.get? d.heap.objs.size=ah:=lP _;have eD:(d.heap.push o).objs.size=d.heap.objs.size+1:=rh ..;have eC:((d.heap.push o).push acc).objs.size=d.heap.objs.size+1+1:=by rw[rh,eD]
    have ga:Good c [] ⟨j,f,d⟩ ⟨j,f,{d with heap:=d.heap.push o,toks:=tk}⟩:=.push g1.sr o tk;have gb:Good c [] _ ⟨j++[(d.heap.push o).objs.size],f++[K],{d with heap:=(d.heap.push o).push acc,toks:=tk}⟩:=.alloc ga.sr acc K tk (Wk _ _);have G:=(ga.trans gb).trans (.keeps gb.sr keep tk);have Wo:=gb.sr.size;have Z:=gb.sr.fresh_new (lP _);have hC:d.heap.get? ((d.heap.push o).push acc).objs.size=ah:=eL (by rw[eC];exact eG _ 2);have Wp:d.heap.objs.size∉j++[(d.heap.push o).objs.size]:=λq=>(b7.mp q).elim g1.sr.size λq=>ug d.heap.objs.size (eD▸aL.mp q).symm;have We:d.heap.objs.size≠((d.heap.push o).push acc).objs.size:=by rw[eC];exact j2 (sI (o7 _))
    have hl:(j++[(d.heap.push o).objs.size])[f.length]?=aa (d.heap.push o).objs.size:=vC ga.sr _;have nl:∀e∈X.l,∀a,d.heap.get? a=ah->a≠e.locals:=λe he a q r=>(H1.out e he).obj.elim λo w=>gF q (r▸w.1);have L:kQ c [] ⟨j,f,d⟩ d.heap.objs.size P (cx X sc ((d.heap.push o).push acc).objs.size) ⟨[],fr.c⟩ 0 ⟨j++[(d.heap.push o).objs.size],f++[K],{d with heap:=W,toks:=tk}⟩:=
     ⟨G,PZ H1.fr S Wm Wo G.step.get,H1.out.step G.step (λt t q=>nomatch q),aY o (keep _ _ (bN _ (dF _ Wl))) h0,Wp⟩
    generalize d.heap.objs.size=I at*;generalize(d.heap.push o).objs.size=D at*;generalize((d.heap.push o).push acc).objs.size=C at*;show lB c.M X.A (.compStart ce 0 (.ref I) (.ref D) (cx X sc C).e) (compPost c.M X.A pW use Q (.ref D) C) _;have Wf:=PY H1.ok S Z;have Wq:=(wE H1.ok sc x).symm.trans (w_ (eq_of_beq hx));refine Ru.start _ _ _ _ _ (Ru.loop (λk s=>∃i z',i+k=xs.length/\z'.s=s/\kQ c [] ⟨j,f,d⟩ I P (cx X sc C) ⟨[],fr.c⟩ i z'/\fp U xs (O f.length) (xs.drop i) z'.σ=.k () J/\z'.ρ[f.length]?=aa D) _ _ _ _ ?_ xs.length _ (qJ 0 _ (eQ _) rfl L h3 hl)) λE Q k=>It.self 0 _ Q E L.it (k _ rfl);intro k s zi;refine qG zi ?_;clear zi;intro i z' V Wr La hc hD;refine dH Wr ?_;refine xQ (X:=cx X sc C) It hI (g1.sr.fresh_new hI) We (λe he=>nl e he I hI) La (za hc) (λa va h5 Wx ha L5 Ws=>?_) λh5 Wt g5 f5=>?_
    ·rw[Cq ha]at hc;refine uq (wG hc) λt Wg Wc hc=>?_;have Wh:=(aP.mp ha).1;refine mT tx Wq Wf L5.good.sr L5.frm Ws λh6 Wy g6 f6 t=>?_;have N:∀x∈[C],x∈([]:ae bh)\/d.heap.get? x=ah:=λx q=>.inr (aL.mp q▸hC);have Y:=λq=>We (aL.mp q);have Wi:=λe he q=>nl e he C hC (aL.mp q).symm;have L6:=L5.step g6 f6 (L5.out.step g6.step Wi) Y N;refine hB f.length C D ⟨z'.ρ,z'.σ,_⟩ a Wg _ _ L6.frm.lnew Z (λe he q=>nl e he C hC q.symm) (L6.here Wf) hD Wc λWu s' g7 f7=>?_;exact⟨k-1,#[42,ag #[25,V,Wh]],i+1,⟨Wu,Wg,s'⟩,by exact aB #[69,V,ag #[25,V,Wh]] #[70,V,d8 _ _],rfl,L6.step g7 f7 (L6.out.step g7.step Wi) Y N,hc,g7.step.get _ _ hD⟩
    ·rw[cF Wt]at hc;refine dp (xR hc) λt e=>?_;clear h3;subst e;refine ba f5.locs λmm Wv t=>?_;have Ww:z.s.heap.get? C=ah:=by
      cases q:z.s.heap.get? C with|none=>rfl|some o=>exact(g1.step.dom C o q).elim λt e'=>gF hC e'
     exact fin _ (.ref D) C mm ⟨z'.ρ,z'.σ,{z'.s with heap:=h5}⟩ rfl (g1.trans g5) Wv Ww f5.lnew Z (.loc hD)
end
end
section
open PySem PySem.W PyProof.Rows PySem.SeqAt
section
variable {c:Cfg} {X:Fx} {fr:AF} {n m:af} {z:Zs} {A:cQ} {E:aE->aM->Prop}
variable {α β:Type} {σ':St} {V:nj α β} {k:eR β} {a:α} {iter:bk} {x:cI} {px:Pos}
theorem Hs {r:R α} {f:α->St->R β} {b:β} {P:Prop} (h:r.bind f=.k b σ') (k:∀a c,r=.k a c->f a c=.k b σ'->P):P:=by induction r using cO with|k a σ=>exact k a σ rfl h|_=>exact nomatch h
theorem Ev.okw {b:bD} {r:R α} (h:Ev c X b V r k z) (e:r=.k a σ') {Q:β->aM->Prop} (f:∀u d s',Good c (EP X b) z ⟨d,σ',s'⟩->V ⟨d,σ',s'⟩ a u->Q u s'):bp c.M X.A k Q E z.s:=by subst e;exact bS h (λu s' q=>q.elim λd q=>f u d s' q.1 q.2) λg g e=>e.elim
theorem Lf.okw {r:R α} (h:Lf c A V r k z) (e:r=.k a σ') {Q:β->aM->Prop} (d:∀u b s',Good c [] z ⟨b,σ',s'⟩->V ⟨b,σ',s'⟩ a u->Q u s'):bp c.M A k Q E z.s:=by subst e;exact bS h (λu s' q=>q.elim λb q=>d u b s' q.1 q.2) λf f e=>e.elim
noncomputable abbrev O1 (c:Cfg) (A:cQ) (f:bk) (g:ae bk):Body:=λb D G E s=>bp c.M A (forIn g ai λc r=>if r=ai then do let ok<-isTrue c b (eval c b);pure (ij ok)else pure (ij r)) (λok a=>if ok=ai then bp c.M A (eval f b) (λx d=>bp c.M A (call (.builtin "list.append") [.ref D,x]) (λh e=>G e) E d) E a else G a) E s
theorem Db {elt:bk} {ifs:ae bk}:wF c A (.ListComp elt [⟨.Name x px,iter,ifs,0⟩] sc pos) x px (O1 c A elt ifs):=
 ⟨λP a a a a turn n a h=>codeAny_compLoop_tests P turn n h,λa a a a a b d=>vj b (d _ _ λa e=>e▸b)⟩
noncomputable abbrev O2 (c:Cfg) (A:cQ) (g h:bk):Body:=λa D G E s=>bp c.M A (forIn [] ai λc r=>if r=ai then do let ok<-isTrue c a (eval c a);pure (ij ok)else pure (ij r)) (λok b=>if ok=ai then bp c.M A (eval g a) (λkv d=>bp c.M A (eval h a) (λi e=>bp c.M A (yV D kv i) (λj f=>G f) E e) E d) E b else G b) E s
theorem Ko {kx b:bk}:wF c A (.DictComp kx b [⟨.Name x px,iter,[],0⟩] sc pos) x px (O2 c A kx b):=
 ⟨λP a a a a turn n a h=>codeAny_compLoop_testsD P turn n h,λa a a a a d f=>codeAny_compStart_dict d (f _ _ λa e=>e▸d)⟩
noncomputable abbrev SJ (c:Cfg) (fr:AF) (n:af) (a:IE) (y:aC) (d:au IE) (l:af) (v:AV) (σ:St):R dt:=(match d with|none=>R.k ai σ|some t=>er c.P n ⟨[(y,v)],fr.c⟩ t σ).bind λb σ=>if b then(bg c.P n ⟨[(y,v)],fr.c⟩ a σ).bind λz σ=>li l z σ else .k () σ
theorem Kp (v:ig c n) {elt:bk} {b:IE} {l:af} {D:bh} {d:St} (w:dW m X.k elt=aa b) (H:cM c X fr n z) (y:z.ρ[l]?=aa D) (h:(bg c.P n fr b z.σ).bind (λz σ=>li l z σ)=.k () d) {G:aM->Prop} (B:∀f s',Good c [] z ⟨f,d,s'⟩->G s'):
  bp c.M X.A (eval elt X.e) (λx i=>bp c.M X.A (call (.builtin "list.append") [.ref D,x]) (λt j=>G j) E i) E z.s:=
 Hs h λa q C F=>(gp v w H).okw C λu f s' g r=>(xK g.sr (.loc (g.step.get _ _ y)) r).okw F λt ρ₂ o p t=>B ρ₂ o (g.trans p)
theorem E4 (r:ig c n) (F:vG c n) {sc:Scope} {elt:bk} {ifs:ae bk} {f:IE} {y:aC} {h:au IE} {l:af} (s:dW m (inner X.k sc) elt=aa f) (I:(ifs=[]/\h=ah)\/∃a u,ifs=[a]/\h=aa u/\dW m (inner X.k sc) a=aa u):
  AZ c X sc fr n y l (SJ c fr n f y h l) (O1 c X.A elt ifs):=by
 intro C D z a p G E P Q J H v w K;have i:∀d s',Good c [] z ⟨d,p,s'⟩->G s':=λd s' g=>K d s' g.wide (H.fr.step g.step λq=>nomatch q).bare;rcases I with⟨rfl,rfl⟩|⟨t,L,rfl,rfl,M⟩
 ·exact wpAny_tests_nil (Kp r s H v w i)
 ·refine wpAny_tests_one (Hs w λb N O x=>(F (cx X sc C) _ z m t L M H).okw O λB d s' g e=>?_);obtain rfl:B=b:=e;induction B using b_ with|true=>exact Kp r s (H.step g) (g.step.get _ _ v) x λρ₂ j o=>i ρ₂ j (g.trans o)|false=>obtain rfl:=(R.k.inj x).2;exact i d s' g
noncomputable abbrev UZ (c:Cfg) (fr:AF) (n:af) (a b:IE) (y:aC) (l:af) (u:AV) (σ:St):R dt:=(bg c.P n ⟨[(y,u)],fr.c⟩ a σ).bind λkv σ=>(bg c.P n ⟨[(y,u)],fr.c⟩ b σ).bind λd σ=>l9 l kv d σ
theorem MP (e:ig c n) {sc:Scope} {kx f:bk} {g h:IE} {y:aC} {l:af} (tk:dW m (inner X.k sc) kx=aa g) (o:dW m (inner X.k sc) f=aa h):AZ c X sc fr n y l (UZ c fr n g h y l) (O2 c X.A kx f):=by intro C D z a p G E I J r H s b t;exact wpAny_tests_nil (Hs b λkv u v b=>Hs b λK w x b=>(gp e tk H).okw v λL d i g1 B=>(gp e o (H.step g1)).okw x λM ρ₂ j g2 F=>Ck b g2.sr (H.ok.room 6 #[0]) ((g1.trans g2).step.get _ _ s) (B.step g2.step) F λN tk g3=>t _ _ ((g1.trans g2).trans g3).wide (H.fr.step ((g1.trans g2).trans g3).step λq=>nomatch q).bare)
section
variable (I U i0 t1 R:bk) (C:Scope) (J:Pos)
noncomputable abbrev vJ:bk:=.ListComp I [⟨U,i0,[],0⟩,⟨t1,R,[],0⟩] C J
theorem DO (c b:aE) (a:gP):Aj (vJ I U i0 t1 R C J) 0 c b a=(fC i0.pos>>=λd=>yo c>>=λr=>match r with
   |none=>pure (.done .next)
   |some v=>qm U c v>>=λd=>rW U a v>>=λd=>
    eval R a>>=λx=>fC R.pos>>=λd=>foldedSetIterable R a x>>=λx=>jL [x] (rU x)>>=λe=>
     runOwn (.compStart (vJ I U i0 t1 R C J) 1 e b a) a>>=λd=>again (.compLoop (vJ I U i0 t1 R C J) 0 c b a)):=by rfl
theorem DP (c b:aE) (a:gP):Aj (vJ I U i0 t1 R C J) 1 c b a=(fC R.pos>>=λd=>yo c>>=λr=>match r with
   |none=>pure (.done .next)
   |some v=>qm t1 c v>>=λd=>rW t1 a v>>=λd=>
    (eval I a>>=λx=>call (.builtin "list.append") [b,x]>>=λd=>pure ())>>=λd=>again (.compLoop (vJ I U i0 t1 R C J) 1 c b a)):=by rfl
end
variable {J i0 i1:bk} {x0 x1:cI} {p0 p1:Pos} {sc:Scope} {U:Pos}
theorem IF {it b:aE} {env:gP} {R:v_->aM->Prop} {s:aM} (d:lB c.M A (.compLoop (vJ J (.Name x0 p0) i0 (.Name x1 p1) i1 sc U) 1 it b env) R s)
  (h:∀E Q,(∀a,a=it->Q a s)->bp c.M A (rU it) Q E s):lB c.M A (.compStart (vJ J (.Name x0 p0) i0 (.Name x1 p1) i1 sc U) 1 it b env) R s:=by
 refine codeAny_of_tree ?_;show bp _ A ((compStart (vJ J (.Name x0 p0) i0 (.Name x1 p1) i1 sc U) 1 it b env).onRaise (λx=>do uU x env;fC theWindowsPlace)) _ _ s;refine wpAny_notedAt ?_;unfold compStart;show bp _ A (ask>>=_) _ _ s;refine aA (wpAny_askSetting (wpAny_ite ?_));split
 ·first
   |exact aA (aW (aW (yu rfl d)))
   |exact aW (yu rfl d)
 ·first
   |exact aA (iH (aA (dz (aA (h _ _ λa e=>aW (yu rfl (e▸d)))))))
   |(refine aA (iH ?_);show bp _ _ (fC i1.pos>>=_) _ _ s;exact aA (dz (aA (h _ _ λa e=>aW (yu rfl (e▸d))))))
noncomputable abbrev O3 (c:Cfg) (A:cQ) (J i0 i1:bk) (x0 x1:cI) (p0 p1:Pos) (sc:Scope) (U:Pos):Body:=λa D G E s=>bp c.M A (eval i1 a) (λx b=>bp c.M A (rU x) (λe d=>∀K:v_->aM->Prop,(∀s',G s'->K (.ok .next) s')->lB c.M A (.compStart (vJ J (.Name x0 p0) i0 (.Name x1 p1) i1 sc U) 1 e (.ref D) a) K d) E b) E s
theorem MQ (d:xM i1=ai):wF c A (vJ J (.Name x0 p0) i0 (.Name x1 p1) i1 sc U) x0 p0 (O3 c A J i0 i1 x0 x1 p0 p1 sc U):=by refine⟨λP o D b R turn n s h=>codeAny_loop rfl P (λk s p=>?_) n h,λa a a a a f d=>vj f (d _ _ λa e=>e▸f)⟩;show bp _ A ((Aj (vJ J (.Name x0 p0) i0 (.Name x1 p1) i1 sc U) 0 o (.ref D) b).onRaise (λx=>do uU x b;theTreesLotGoes x)) _ _ s;refine wpAny_noted ?_;rw[DO];refine aA (dz (aA (bS (turn k s p) (λr i q=>?_) λa a e=>e)));induction r using cX with|none=>exact aW q|some v=>refine aA (rE rfl (aA (bS q (λa j q=>aA (bS q (λu l q=>?_) λa a e=>e)) λa a e=>e)));refine aA (dz (aA (rE (Cp (X:=⟨A,[],b,λa=>ah⟩) d u) (aA (dk (bS q (λt m q=>?_) λa a e=>e))))));exact aA (wpAny_runOwn (q _ λs' g=>aW ⟨rfl,g⟩))
noncomputable abbrev U0 (c:Cfg) (fr:AF) (n:af) (a b:IE) (e f:aC) (l:af) (v:AV) (σ:St):R dt:=(bg c.P n ⟨[(e,v)],fr.c⟩ b σ).bind λg σ=>(opt σ (items g σ)).bind λd σ=>fp d.2 d.1 (λu σ=>(bg c.P n ⟨[(e,v),(f,u)],fr.c⟩ a σ).bind λz σ=>li l z σ) d.1 σ
theorem MR (ih:ig c n) {f B:IE} {d o:aC} {l:af} (S:Co X.k sc) (ok:l_ c X n) (Wf:AH sc x1=ai) (Wg:(x0 !=x1)=ai) (te:dW m (inner X.k sc) J=aa f) (Wh:nm x0=aa d) (N:nm x1=aa o) (t1:dW m (inner X.k sc) i1=aa B):
  AZ c X sc fr n d l (U0 c fr n f B d o l) (O3 c X.A J i0 i1 x0 x1 p0 p1 sc U):=by
 have O:o≠d:=λe=>oz.mp Wg ((pV Wh).symm.trans (e▸pV N));intro C D z a Wi G E hC hb Wj H hD h hG;refine Hs h λs2 R h1 h=>(gp ih t1 H).okw h1 λu2 v T g7 r7=>?_;cases h2:items s2 R with
 |none=>rw[h2]at h;exact nomatch h
 |some p=>
  obtain⟨ys,src⟩:=p;rw[h2]at h;have h:=h;have H7:=H.step g7;have Wk:=(wE ok sc x1).symm.trans (w_ (eq_of_beq Wf));have Wl:=g7.step.get _ _ hD;refine AY [C] h2 H7 r7 λI P s' It hI Wm V Wn L K hK=>?_;have W:lB c.M X.A (.compLoop (vJ J (.Name x0 p0) i0 (.Name x1 p1) i1 sc U) 1 (.ref I) (.ref D) (cx X sc C).e) K s':=by
   refine codeAny_loop rfl (λk s=>∃j z',j+k=ys.length/\z'.s=s/\kQ c [C] ⟨v,R,T⟩ I P (cx X sc C) ⟨[(d,a)],fr.c⟩ j z'/\fp src ys (λu σ=>(bg c.P n ⟨[(d,a),(o,u)],fr.c⟩ f σ).bind λz σ=>li l z σ) (ys.drop j) z'.σ=.k () Wi) ?_ ys.length (qH 0 _ (eQ _) rfl L h);intro k s zi;refine tj zi ?_;clear zi;intro j z' i Wo Lx r;refine dH Wo ?_;show bp _ X.A ((Aj (vJ J (.Name x0 p0) i0 (.Name x1 p1) i1 sc U) 1 (.ref I) (.ref D) (cx X sc C).e).onRaise (λx=>do uU x (cx X sc C).e;theTreesLotGoes x)) _ _ z'.s;refine wpAny_noted ?_;rw[DP];refine aA (dz (aA (xQ It hI Wm V Wn Lx (za r) (λb vb h8 Wr hb L8 Wp=>?_) λh8 Wq g8 f8=>?_)))
   ·rw[Cq hb]at r;refine uq (wG r) λY Z y r=>?_;have Wc:=(aP.mp hb).1;refine aA (rE rfl (aA (mT N Wk H.ok L8.good.sr L8.frm Wp λh9 Ws g9 f9 Y=>?_)));have t:bA o b [(d,a)]=[(d,a),(o,b)]:=by
     unfold bA;rw[aG O];rfl
    have Wd:=λe he q=>Wj e he (aL.mp q);have L9:=L8.step g9 f9 (L8.out.step g9.step Wd) (λq=>V (aL.mp q)) λY q=>.inl q;have H9:=t▸L9.here H.ok;refine aA (Hs y λw Wt q1 q2=>aA ((gp ih te H9).okw q1 λuz Wu sz gz rz=>aA ((xK gz.sr (.loc ((L9.good.step.trans_get gz.step) _ _ Wl)) rz).okw q2 λY We su gu Y=>aW ?_)));have La:=(L9.step0 gz).step0 gu;have F:jy c (cx X sc C) ⟨[(d,a)],fr.c⟩ ⟨We,Z,su⟩:=La.frm.sub rfl λzz vv g=>by rw[show bA o b [(d,a)]=[(d,a),(o,b)]from t,fP];rw[fP]at g;cases hq:zz==d with|true=>rw[hq]at g;exact g|false=>rw[hq]at g;exact bO g
    exact aW ⟨rfl,k-1,#[42,ag #[25,i,Wc]],j+1,⟨We,Z,su⟩,by exact aB #[69,i,ag #[25,i,Wc]] #[70,i,d8 _ _],rfl,⟨La.good,F,La.out,La.it,La.iI⟩,r⟩
   ·rw[cF Wq]at r;refine dp (xR r) λY e=>?_;clear r h;subst e;exact aW (hK _ (hG _ _ (g7.wide.trans g8) f8.bare))
  exact IF W λE Q k=>It.self 0 _ Q E L.it (k _ rfl)
end
section
variable {c:Cfg} {X:Fx} {U:AF} {n m:af} {z:Zs}
theorem vF.other {ex:ae bh} {C:bh} {i:cI->au aE} {b:dj} {z':Zs} {v:AV} {u:aE} (g:Good c ex z z') (d:z'.s.heap.Ns C i) (f:gQ C z'.s.heap b) (a:z.s.heap.get? C=ah) (j:C∉z'.ρ) (k:c.h₀.get? C=ah) (l:Vz c z' v u):
  vF c ex (Vz c) z v z'.σ u {z'.s with heap:=b}:=aY z'.ρ (g.other f.extBut a (qN d) j k z'.s.toks) (l.map (λm m e=>e) (kP (qN d) f.extBut))
noncomputable abbrev U1 (c:Cfg) (z:Zs) (r:R AV) (u:aE) (s':aM):Prop:=∃a σ',r=.k a σ'/\vF c [] (Vz c) z a σ' u s'
theorem MS (r:R AV):vI c X z r ah (U1 c z r):=λv u C d z' e g b a f h i=>aY d b (λk j=>dY v z'.σ e (.other g b j a f h i))
theorem uE {a:IE} {b:AO} {tn:af->AV->St->R dt} {σ:St} {k:aC} {σ':St}:A0 c U n a b tn σ≠.x k σ':=by
 unfold A0;induction bg c.P n U a σ using cO with
 |k s σ=>show(opt σ (items s σ)).bind _≠_;induction items s σ using cX with|none=>exactλh=>nomatch h|some xs=>show(fp xs.2 xs.1 (tn σ.length) xs.1 (σ++[b])).bind _≠_;cases fp xs.2 xs.1 (tn σ.length) xs.1 (σ++[b])<;>exactλh=>nomatch h
 |_=>exactλh=>nomatch h
variable {r:R AV}
theorem Ev.of_or {k:eR aE} (f:∀q σ',r≠.x q σ') (h:r=.b\/bp c.M X.A k (U1 c z r) pW z.s):Ev c X aD (Vz c) r k z:=by
 rcases h with rfl|h
 ·trivial
 ·revert h f;induction r using cO with|b=>exactλd d=>trivial|x q σ'=>exactλh=>bJ rfl (h q σ')|k a σ'=>exactλd h=>bS h (λu s' q=>q.elim λi q=>q.elim λg q=>(R.k.inj q.1).1▸(R.k.inj q.1).2▸q.2) λd d e=>e
noncomputable def D9 (e:bk) (c:gP) (use:au (aE->eR dt)):eR aE:=eX (pure .none) (λa=>pure .none) (λa a a=>pure .none) (λa a a=>pure .none) (λa a=>pure .none) (λa=>pure .none) (λa=>pure .none) (λa a a a=>pure .none) (λa a=>pure .none) (λa a=>pure .none) (λa a a=>pure .none) (λa a a=>pure .none) (λa a=>pure .none) (λa=>pure .none) (λa a a=>pure .none)
 (λd b sc pos=>xu (.ListComp d b sc pos) sc c (firstIterPos b pos) (newList []) (firstAsync b) (firstIter b c) use)
 (λk v b sc pos=>xu (.DictComp k v b sc pos) sc c (firstIterPos b pos) newDict (firstAsync b) (firstIter b c) use) (pure .none) e
noncomputable abbrev Kq (c:Cfg) (X:Fx) (z:Zs) (r:R AV) (ast:bk):Prop:=(∀k σ',r≠.x k σ')/\∀(use:au (aE->eR dt)) (Q:aE->aM->Prop),vI c X z r use Q->r=.b\/bp c.M X.A (D9 ast X.e use) Q pW z.s
variable {J:Scope} {p0 I:Pos}
theorem zM (s:aM) (Q:aE->aM->Prop) {A:cQ} {E:aE->aM->Prop} (h:Q (.ref s.heap.objs.size) {s with heap:=s.heap.push (mz [] 0)}):bp c.M A (newList []) Q E s:=r8 h (fO _)
theorem MT (s:aM) (Q:aE->aM->Prop) {A:cQ} {E:aE->aM->Prop} (h:Q (.ref s.heap.objs.size) {s with heap:=s.heap.push (mA [] 0)}):bp c.M A newDict Q E s:=by exact ju h
theorem Cr (ρ:ae bh) (h:dj):OR c (ρ++[h.objs.size]) (h.push (mz [] 0)) h.objs.size (.l []):=dY ([]) 0 (dF _ rfl) .nil
theorem P0 (ρ:ae bh) (h:dj):OR c (ρ++[h.objs.size]) (h.push (mA [] 0)) h.objs.size (.d []):=fD ([]) 0 (dF _ rfl) .nil .nil
theorem zN (j:ig c n) (N:vG c n) {ast:bk} {e:IE} (R:gZ ast=ai) (h:D2 (dW m) X.k ast=aa e) (H:cM c X U n z):Kq c X z (bg c.P (n+1) U e z.σ) ast:=by
 induction ast using fL with
 |ListComp T C J I=>
  induction C using aV with
  |nil=>exact bO h
  |cons g C=>
   refine ob h λp D h=>g_ h λr h=>ob h λE F h=>ob h λy ty h=>ob h λi t b=>nk r λG u=>?_;have S:=y_ G;refine ck (Cd D) λpx d=>?_;refine dq d ?_;clear D;induction C using aV with
   |nil=>obtain⟨x,iter,K⟩:=p;induction K using aV with|nil=>refine dH (aw b) ?_;exact⟨λo o=>uE (tn:=SJ c U n E y ah),λuse Q fin=>wH j Db rfl rfl S u ty t H (λs Q=>zM s Q) Cr (λl=>E4 j N F (.inl ⟨rfl,rfl⟩)) fin⟩|cons a as=>refine ob b λV L b=>ob b λO W b=>?_;refine dH (aw b) ?_;have L:=j_ L;rw[L];exact⟨λo o=>uE (tn:=SJ c U n E y (aa O)),λuse Q fin=>wH j Db rfl rfl S u ty t H (λs Q=>zM s Q) Cr (λl=>E4 j N F (.inr (fD V O rfl rfl W))) fin⟩
   |cons g' Y=>refine ob b λg1 w b=>ob b λq Z b=>g_ b λf b=>ob b λy1 M b=>ob b λi2 B b=>nk f λf h6=>nk f λf h5=>nk f λh3 h4=>?_;refine dH (aw b) ?_;have w:=j_ w;rw[w];refine ck (Cd Z) λWc d=>?_;rw[d,show p.2.2=[]from fm.mp h3,show q.2.2=[]from fm.mp h4];exact⟨λo o=>uE (tn:=U0 c U n E i2 y y1),λuse Q fin=>wH j (MQ (iR (X:=⟨X.A,X.l,X.e,inner X.k J⟩) B)) rfl rfl S u ty t H (λs Q=>zM s Q) Cr (λl=>MR j S H.ok h5 h6 F ty M B) fin⟩
 |DictComp k v C J I=>refine ob h λg w h=>ob h λp D h=>g_ h λr h=>ob h λk' tk h=>ob h λv' tv h=>ob h λy ty h=>ob h λi t b=>nk r λh0 r=>nk r λG u=>?_;refine dH (aw b) ?_;refine ck (Cd D) λpx d=>?_;rw[j_ w,d,show p.2.2=[]from fm.mp h0];exact⟨λo o=>uE (tn:=UZ c U n k' v' y),λuse Q fin=>wH j Ko rfl rfl (y_ G) u ty t H (λs Q=>MT s Q) P0 (λl=>MP j tk tv) fin⟩
 |_=>first|exact ff R|exact bO h
theorem Ev.comp {ast:bk} (h:Kq c X z r ast) (e:eval ast X.e=D9 ast X.e ah):Ev c X aD (Vz c) r (eval ast X.e) z:=.of_eq e (.of_or h.1 (h.2 ah _ (MS r)))
theorem O4 (B:gL c) (j:ig c n) (E:vG c n) (ib:Iy c n) (u:wB c n) (io:Kh c n) (F:E1 c n) (P:Kl c n):ig c (n+1):=by
 intro X U z m ast e h H;obtain⟨m,rfl,h,_⟩:=vz h;have H:=H.less (eM n);induction ast using fL with
 |Constant k _ _=>exact om h λv S=>Ev.of_lf (MC S H.sr)
 |Name id I=>refine g_ h λhd h=>ob h λx G h=>?_;have hd:=gY.mp (AL hd);refine .of_eq (xv ..) (.stand ?_);rw[aG (by rw[hd.1];decide)];exact PS B H G hd.2 h
 |BinOp l op r I=>refine ob h λa d h=>ob h λb K h=>jN h (Vd j d K H)
 |UnaryOp op x I=>induction op using v8 with|Not=>exact om h λa d=>Ve j d H|USub=>exact om h λa d=>Vf j d H|_=>exact bO h
 |BoolOp op vs I=>exact om h λL d=>.of_eq (arm_eval_BoolOp ..) (ib X U z m I op vs L d H)
 |Compare l s Q I=>
  induction s using aV with
  |nil=>exact bO h
  |cons op s=>
   induction s using aV with
   |nil=>refine ob h λT A h=>ob h λr C h=>ob h λV M h=>jN h (j_ C▸Vg B j A M H)
   |cons W s=>
    induction s using aV with
    |cons _ _=>exact bO h
    |nil=>induction Q using aV with|nil=>exact bO h|cons r Q=>refine ob h λT A h=>ob h λr1 M h=>ob h λr2 C h=>ob h λV N h=>jN h (j_ C▸Ug B j A M N H)
 |IfExp t a b I=>refine ob h λt' Y h=>ob h λa' d h=>ob h λb' K h=>jN h (Vh j E Y d K H)
 |Tuple L k I=>exact om h λis d=>Vi u d H
 |List L I=>exact om h λis d=>Uh u d H
 |Dict R vs I=>refine ob h λZ tk h=>ob h λWc tv h=>jN h (Vl F tk tv H)
 |Attribute o x I=>refine g_ h λw h=>ob h λa d h=>ob h λy ty h=>jN h (Un B j (AL w) d ty H)
 |Subscript v i I=>refine ob h λa d h=>?_;exact CZ h (λq w h=>ob h λl A h=>ob h λh' th h=>(PI w).elim λu0 r=>r▸jN h (Vk j io d A th H)) λu0 h=>ob h λi' ti h=>jN h (Vj j d ti H)
 |Call f args R I=>refine g_ h λw h=>ob h λvs D hz=>nk w λC h2=>?_;obtain rfl:R=[]:=fm.mp C;clear h;exact CZ hz (λp O h=>g_ h λw h=>ob h λa d h=>ob h λx G h=>nk w λh3 h4=>EI O▸jN h (Uo B j u P (AL h3) h4 (bC h2) d G D H)) λO h=>ob h λg tg h=>jN h (Um B j u P O tg D H)
 |ListComp Wd gs J I=>exact .comp (zN j E rfl h H) rfl
 |DictComp k v gs J I=>exact .comp (zN j E rfl h H) rfl
 |_=>exact bO h
end
noncomputable abbrev Qr (c:Cfg) (X:Fx) (b:bD) {α β:Type} (V:nj α β) (z:Zs) (r:R α) (u:β) (s':aM):Prop:=∃a σ',r=.k a σ'/\vF c (EP X b) V z a σ' u s'
noncomputable abbrev Er (c:Cfg) (X:Fx) (b:bD) {α:Type} (z:Zs) (r:R α) (v:aE) (s':aM):Prop:=∃k σ',r=.x k σ'/\oG c X b z k σ' v s'
section
variable {c:Cfg} {X:Fx} {J:AF} {n m:af} {z C:Zs} {E:aE->aM->Prop} {b:bD}
variable {U β:Type} {V:nj U β} {r:R U} {k:eR β} {I:AF} {e:bk}
theorem Ev.of_qe (h:r≠.b->bp c.M X.A k (Qr c X b V z r) (Er c X b z r) z.s):Ev c X b V r k z:=by induction r using cO with|b=>trivial|k a σ=>exact bS (h λq=>nomatch q) (λu s' q=>q.elim λf q=>q.elim λσ' q=>(R.k.inj q.1).1▸(R.k.inj q.1).2▸q.2) λd d q=>q.elim λd q=>q.elim λd q=>nomatch q.1|x e σ=>exact bS (h λq=>nomatch q) (λu s' q=>q.elim λf q=>q.elim λσ' q=>nomatch q.1) λd d q=>q.elim λd q=>q.elim λd q=>(R.x.inj q.1).1▸(R.x.inj q.1).2▸q.2
theorem Ev.to_qe (h:Ev c X b V r k z) (f:r≠.b):bp c.M X.A k (Qr c X b V z r) (Er c X b z r) z.s:=by induction r using cO with|b=>exact bJ rfl f|k a σ=>exact bS h (λu s' q=>dY a σ rfl q) λd d q=>q.elim|x e σ=>exact bS h (λd d q=>q.elim) λv s' q=>dY e σ rfl q
theorem cM.frs (T:sA X) (ok:l_ c X n) (f:jy c X J z) (o:∀e∈X.l,e≠X.e->Sy c z e):pC c X.l z:=λe a=>by
 by_cases q:e=X.e
 ·rw[q];exact⟨by rw[ok.kind];decide,T.fr,f.lnew,ok.lbase,f.locs.elim λm q=>tN q.1⟩
 ·exact o e a q
theorem cM.stepS (T:sA X) (H:cM c X J n z) (g:Good c [X.e.locals] z C) (f:jy c X I C):cM c X I n C:=by refine ba T.l λo b d=>?_;refine⟨H.ok,g.sr,f,cM.frs T H.ok f λe a q=>?_⟩;rw[b]at a;have a:=(bw.mp a).resolve_left q;have w:=H.out e (b▸aK _ a);exact w.obj.elim λob r=>⟨w.nm,w.fr,g.step.new_not r.1 w.new,w.base,ob,g.step.ext _ ob w.new (λq=>d e a (aL.mp q)) r.1,r.2⟩
theorem A3 (ok:l_ c X n):interactive X.e=aD:=by unfold interactive;rw[ok.kind];rfl
theorem E5 (h:gZ e=aD) (t:au bk) (line:af) (a:gP):swapsWith e t line a=pure aD:=by cases e<;>first|rfl|exact nomatch h
theorem Ev.next (H:cM c X J n z):Ev c X ai (jO c X) (.k (.n,J) z.σ) (uS .next) z:=Ev.pure H.sr ⟨H.fr,rfl⟩
theorem Ev.endS {σ':St} {s':aM} {a:ae bh} (g:Good c [X.e.locals] z ⟨a,σ',s'⟩) (f:jy c X I ⟨a,σ',s'⟩):vF c (EP X ai) (jO c X) z (.n,I) σ' .next s':=dS a g f rfl
theorem Vm (g:ig c n) {e:bk} {pos:Pos} {d:IE} (j:gZ e=aD) (l:dW m X.k e=aa d) (H:cM c X J n z):Ev c X ai (jO c X) (cS c.P (n+1) (.e d) J z.σ) (exec (.Expr e pos) X.e) z:=by
 have key:Ev c X ai (jO c X) (cS c.P (n+1) (.e d) J z.σ) (do let v<-eval e X.e;dropValue e pos v) z:=by refine(gp g l H).bind H λv u C f a b=>?_;clear b;induction v using aN with|n=>exact wpAny_dropValue (Ev.endS (.refl a.sr) a.fr)|i i=>exact wpAny_dropValue (Ev.endS (.refl a.sr) a.fr)|_=>trivial
 refine key.lift λQ E h=>?_;show bp _ _ (do
  fC pos
  if interactive X.e then printExpr (eval e X.e)
  else if<-swapsWith e ah pos.line X.e then do rF e X.e λo=>point;pure .next
  else do dropValue e pos (<-eval e X.e)) _ _ _
 rw[A3 H.ok,E5 j];refine aA (dz ?_);rw[aG eT];exact aA (aW h)
noncomputable def O5 (e:bk):bD:=[23,25,20,21].elem e.ctorIdx
theorem pE {t:bk} {pos:Pos} {Q:Flow->aM->Prop} {s:aM} {M:Model} {A:cQ} {env:gP} (b:lC [t] e pos.line env=pure aD) (a:(uy t&&uy e)=aD) (c:O5 t=ai) (h:bp M A (do let v<-eval e env;rW t env v;pure uW) Q E s):bp M A (exec (.Assign [t] e pos) env) Q E s:=by
 show bp _ _ (do
  fC pos
  if<-lC [t] e pos.line env then do
   rF e env λv=>uX v ((jq [t] env).map (·.2))
   pure .next
  else do
   let v<-eval e env
   assignStores env v (<-xw [t] e env) ((jq [t] env).map (·.2))) _ _ _
 have d:xw [t] e env=pure ah:=by
  clear h b;induction t using fL with
  |Tuple _ _ _=>cases e<;>first|rfl|exact nomatch a
  |_=>first|rfl|exact nomatch c
 have f:(jq [t] env).map (·.2)=[rW t env]:=by clear h b a d;cases t<;>first|rfl|exact nomatch c
 rw[b,d,f];exact aA (dz (aA (aW h)))
end
section
variable {c:Cfg} {X:Fx} {I J:AF} {n m:af} {z z₁:Zs} {E:aE->aM->Prop} {b:bD} {v:AV} {u:aE} {C:St}
variable {U:Tgt} {ko:KO} {t:bk} {y:aC} {ts:ae bk}
theorem IG {x:cI} (ty:nm x=aa y) (m:X.k x=aa .cell) (H:cM c X I n z) (q:Vz c z v u) (a:qK I y v z.σ=aa C) {Q:dt->aM->Prop}
  (t:∀j,Good c [] z ⟨z.ρ,C,{z.s with heap:=j}⟩->Q () {z.s with heap:=j}):bp c.M X.A (bindName X.e x u) Q E z.s:=by
 obtain rfl:=pV ty;unfold qK at a;cases d:I.c.lookup y with
 |none=>rw[d]at a;exact bO a
 |some k=>
  rw[d]at a;refine ba (H.fr.cells y k d (.inl m)) λb B l=>?_;revert a;show(match z.σ[k]? with|some (.c _)=>aa (z.σ.set k (.c (aa v)))|_=>ah)=aa C->_;refine SR.loc_e H.sr l λo r=>?_;induction o using b8 with
  |c w=>
   intro a;obtain rfl:=aw a;refine wa (r.elim λp r=>wpAny_storeName_cell H.ok.kind ((H.ok.kof _).trans m) B r.1 λj g i=>?_);have hex:∃ob,j.get? b=aa ob:=g.elim λo e=>⟨o,e.1⟩
   exact t _ (.turn H.sr z.s.toks l i hex (tF _ g u rfl (q.step (ex:=[]) (.turn H.sr l i hex))))
  |_=>exactλh=>bO h
theorem Ht {e:bk} (h:yE ko e=aa y):∃x p,e=.Name x p/\nm x=aa y/\ko x=aa .local:=
 ob h λx a h=>g_ h λb c=>(tK a).elim λp e=>fD x p e c (eq_of_beq b)
theorem E6:∀{xs:ae aC} {vs:ae AV} {us:ae aE} {z:Zs} {I:AF},fJ (yE X.k) ts=aa xs->xs.length=vs.length->l_ c X n->fz c z->jy c X I z->lX c z vs us->
  ∀{Q:dt->aM->Prop},(∀s',Good c [X.e.locals] z ⟨z.ρ,z.σ,s'⟩->jy c X {I with v:=B8 xs vs I.v} ⟨z.ρ,z.σ,s'⟩->Q () s')->bp c.M X.A (assignInOrder ((jq ts X.e).map (·.2)) us) Q E z.s:=by
 induction ts with
 |nil=>intro xs vs us z I b d ok Z f r Q g;obtain rfl:=aw b;induction vs using aV with|nil=>exact rE (show assignInOrder ((jq [] X.e).map (·.2)) us=pure ()by cases us<;>rfl) (g z.s (.refl Z) f)|cons _ _=>exact nomatch d
 |cons t ts j=>intro xs vs us z I b d ok Z f r Q g;revert d g;refine ob b λy ty b=>ob b λm i b=>?_;refine dH (aw b) ?_;intro d g;obtain⟨x,p,rfl,ty,l⟩:=Ht ty;induction vs using aV with|nil=>exact nomatch d|cons v vs=>revert r;refineλr=>r.cons_e λu us a r=>wpAny_assignInOrder_more ?_;exact mT ty l ok Z f a λo tk g1 f1 q=>j i (f_ d) ok g1.sr f1 (r.step g1.step) λh g2 f2=>g h (g1.trans g2) f2
theorem MU {env:gP}:∀{xs:ae aC},fJ (yE ko) ts=aa xs->(jq ts env).length=xs.length/\(jq ts env).findIdx? (·.1)=ah:=by induction ts with|nil=>exactλh=>aw h▸⟨rfl,rfl⟩|cons t ts c=>refineλh=>ob h λy ty h=>ob h λe a h=>?_;refine dH (aw h) ?_;refine d9 (Ht ty) λx p b f=>?_;clear ty;obtain rfl:=b;refine dp (c a) λi1 d=>?_;refine⟨aU Nat.succ i1,?_⟩;rw[j6,d];rfl
theorem A4 (f:pU X.k t=aa U) (d:il U v I z.σ=aa (J,C)) (H:cM c X I n z) (w:Vz c z v u) {Q:dt->aM->Prop}
  (B:∀s',Good c [X.e.locals] z ⟨z.ρ,C,s'⟩->jy c X J ⟨z.ρ,C,s'⟩->Q () s'):bp c.M X.A (rW t X.e u) Q E z.s:=by
 induction t using fL with
 |Name x p=>
  revert d;refine ob f λy ty f=>?_;by_cases g:(X.k x==aa .local)=ai
  ·rw[aF g]at f;refine dH (aw f) ?_;intro d;refine dp (eK (aw d)) λh i=>?_;clear d;subst h i;exact mT ty (eq_of_beq g) H.ok H.sr H.fr w λD tk g1 f1 V=>B _ g1 f1
  ·rw[aG g]at f;refine g_ f λg f=>?_;refine dH (aw f) ?_;intro d;refine ba (bK.mp (show(qK I y v z.σ).map (λσ=>(I,σ))=aa (J,C)from d)) λF O K=>?_;refine dp (eK K) λh i=>?_;clear K d;subst h i;rw[arm_assign_Name];exact aA (dz (IG ty (eq_of_beq g) H w O λD g1=>B _ g1.wide (H.step g1).fr))
 |Tuple ts k p=>
  refine ba (bK.mp f) λxs L G=>?_;obtain rfl:=G;induction v using aN with
  |t vs=>
   have d:(if xs.length=vs.length then aa (({I with v:=B8 xs vs I.v}:AF),z.σ)else ah)=aa (J,C):=d;by_cases l:xs.length=vs.length
   ·rw[aF l]at d;refine dp (eK (aw d)) λh i=>?_;subst h i;refine w.tup_e λa P us e r=>?_;refine dp (MU (env:=X.e) L) λR S=>?_;rw[arm_assign_Tuple];refine aA (dz (PyProof.Rows.unpack_tuple H.ok.hh (As _ e rfl P rfl) (R.trans (l.trans (r.length.trans cb.symm))) S λD T=>?_));have m:Good c [] z ⟨z.ρ,z.σ,{z.s with heap:=D}⟩:=.keeps H.sr (λb o q=>T b o (j2 (jn q)) q) z.s.toks;exact E6 L l H.ok m.sr (H.step m).fr (r.step m.step) λj g1 f1=>B j (m.wide.trans g1) f1
   ·rw[aG l]at d;exact bO d
  |_=>exact bO d
 |_=>exact bO f
theorem Ev.tgt {r:R (Fl×AF)} (a:pU X.k t=aa U) (d:r≠.b->∃J C,il U v I z.σ=aa (J,C)/\r=.k (.n,J) C) (H:cM c X I n z) (h:Vz c z v u):Ev c X ai (jO c X) r (do rW t X.e u;uS uW) z:=
 .of_qe λi=>(d i).elim λJ q=>q.elim λC q=>aA (A4 a q.1 H h λs' g f=>aW (dY _ _ q.2 (Ev.endS g f)))
noncomputable abbrev E7 (U:Tgt) (v:AV) (I:AF) (σ:St):R (Fl×AF):=match il U v I σ with|some r=>.k (.n,r.1) r.2|none=>.b
theorem A5 {σ:St} (h:E7 U v I σ≠.b):∃J C,il U v I σ=aa (J,C)/\E7 U v I σ=.k (.n,J) C:=by unfold E7 at h⊢;cases q:il U v I σ with|none=>rw[q]at h;exact bJ rfl h|some r=>exact dY r.1 r.2 rfl rfl
theorem MV (h:pU ko t=aa U):O5 t=ai:=by cases t<;>first|rfl|exact bO h
theorem U2 {α:Type} {p:bD} {o:au α} {e:α} {P:Prop} (h:(if p=ai then ah else o)=aa e) (k:o=aa e->P):P:=by induction p using b_ with|true=>exact bO h|false=>exact k h
theorem O6 (j:ig c n) {t e:bk} {pos:Pos} {U:Tgt} {q:IE} {i:IS} {cc:bD} (r:lC [t] e pos.line X.e=pure aD) (l:(uy t&&uy e)=aD) (g:pU X.k t=aa U) (o:dW m X.k e=aa q) (f:D3 q cc U=aa i) (H:cM c X I n z):Ev c X ai (jO c X) (cS c.P (n+1) i I z.σ) (exec (.Assign [t] e pos) X.e) z:=by
 have key:Ev c X ai (jO c X) (cS c.P (n+1) i I z.σ) (do let v<-eval e X.e;rW t X.e v;uS uW) z:=by
  induction U using Ak with
  |v y=>refine U2 f λf=>?_;refine dH (aw f) ?_;exact(gp j o H).bindX H λv u z₁ d a b=>.tgt g (λs=>dY _ _ rfl rfl) a b
  |c y=>induction cc using b_ with|true=>exact bO f|false=>refine dH (aw f) ?_;exact(gp j o H).bind H λv u z₁ d a b=>.tgt g A5 a b
  |p xs=>induction cc using b_ with|true=>exact bO f|false=>refine dH (aw f) ?_;exact(gp j o H).bind H λv u z₁ d a b=>.tgt g A5 a b
 exact key.lift λQ E h=>pE r l (MV g) h
end
section
variable {c:Cfg} {X:Fx} {J fr':AF} {n m:af} {z U:Zs} {E:aE->aM->Prop} {b:bD} {v:AV} {u:aE} {σ':St}
variable {e:bk} {env:gP}
theorem MW {ko:KO} {a:IE} {f:aE->eR dt} (b:gZ e=ai) (h:D2 (dW m) ko e=aa a):rF e env f=(do let _<-D9 e env (aa f);pure ()):=by cases e<;>first|rfl|exact bO h|exact nomatch b
theorem SM (B:ig c n) (D:vG c n) {x:cI} {px pos:Pos} {e:bk} {y:aC} {d:IE} (A:gZ e=ai) (E:nm x=aa y) (F:X.k x=aa .local) (G:dW m X.k e=aa d) (r:lC [.Name x px] e pos.line X.e=pure ai) (H:cM c X J n z):
  Ev c X ai (jO c X) (cS c.P (n+1+1) (.a y d) J z.σ) (exec (.Assign [.Name x px] e pos) X.e) z:=by
 refine cV (vz G) λm' i h i=>?_;have K:=zN B D A h H;show Ev _ _ _ _ ((gc (fG d) (bg c.P (n+1) J d z.σ)).bindX λv σ=>R.k (Fl.n,({J with v:=bA y v J.v}:AF)) σ) _ _;revert K;induction bg c.P (n+1) J d z.σ using cO with
 |b=>exactλi=>by cases fG d<;>trivial
 |x k σ'=>exactλK=>bJ rfl (K.1 k σ')
 |k a σ'=>
  intro K;rw[show(gc (fG d) (.k a σ')).bindX (λv σ=>R.k (Fl.n,({J with v:=bA y v J.v}:AF)) σ)=.k (.n,{J with v:=bA y a J.v}) σ' by cases fG d<;>rfl];have K:=K.2 (aa λv=>uX v ((jq [.Name x px] X.e).map (·.2))) (λi s'=>vF c (EP X ai) (jO c X) z (.n,{J with v:=bA y a J.v}) σ' .next s') λv u C I z' e g L f M N O=>by refine dp (R.k.inj e) λs t=>?_;refine dq s ?_;obtain rfl:=t;refine mT E F H.ok g.sr (H.step g).fr O λS tk g2 f2 r=>?_;have j:C≠X.e.locals:=λq=>H.fr.locs.elim λm w=>(tN w.1).elim λo w=>gF f (q▸w.1);have l:=Ns.at L λo e=>(r.2 C j).trans e;have lo:=qN l;exact aY I l (λQ p=>dS z'.ρ ((g.wide.trans g2).other p.extBut f lo M N tk) (f2.keep lo p.extBut j) rfl)
  have K:=K.resolve_left λq=>nomatch q;show bp _ _ (do
   fC pos
   if<-lC [.Name x px] e pos.line X.e then do
    rF e X.e λv=>uX v ((jq [.Name x px] X.e).map (·.2))
    pure .next
   else do
    let v<-eval e X.e
    assignStores X.e v (<-xw [.Name x px] e X.e) ((jq [.Name x px] X.e).map (·.2))) _ _ _
  rw[r,show rF e X.e (λv=>uX v ((jq [.Name x px] X.e).map (·.2)))=(do let _<-D9 e X.e (aa λv=>uX v ((jq [.Name x px] X.e).map (·.2)));pure ())from MW A h];exact aA (dz (aA (aW (aA (aA (bS K (λi s' q=>aW (aW q)) λi i e=>e))))))
theorem SN (l:ig c (n+1)) (o:ig c n) (p:vG c n) {x:cI} {px pos:Pos} {e:bk} {y:aC} {g:IE} {cc:bD} (d:gZ e=ai) (h:nm x=aa y) (i:X.k x=aa .local) (f:dW m X.k e=aa g) (H:cM c X J (n+1) z):
  Ev c X ai (jO c X) (cS c.P (n+1+1) (.a y g) J z.σ) (exec (.Assign [.Name x px] e pos) X.e) z:=by
 refine ck (by clear d f;cases e<;>first|exact⟨_,rfl⟩|exact nomatch d:∃b,lC [.Name x px] e pos.line X.e=pure b) λb j=>?_;induction b using b_ with|true=>exact SM o p d h i f j (H.less (eM n))|false=>exact O6 (cc:=aD) l j rfl (by show(nm x).bind _=_;rw[h,i];rfl) f rfl H
theorem tC {t:bk} {k:af} (h:gZ e=aD):lC [t] e k env=pure aD:=E5 h (aa t) k env
noncomputable abbrev II (c:Cfg) (X:Fx):nj (Fl×AF) dt:=λz x a=>jy c X x.2 z/\x.1=.n
theorem Ev.thenNext {r:R (Fl×AF)} {k:eR dt} (h:Ev c X ai (II c X) r k z):Ev c X ai (jO c X) r (do k;uS .next) z:=by induction r using cO with|k a σ=>exact aA (bS h (λu s' q=>q.elim λf q=>aW (dS f q.1 q.2.1 (by rw[q.2.2];rfl))) λd d e=>e)|x _ _=>exact aA (bS h (λd d q=>q.elim) λd d t=>t)|b=>trivial
theorem Ev.doneU (H:cM c X J n z) {k:eR dt} {f:R dt} {V:nj dt dt} {vs:ae aE} (h:Lf c X.A V f k z) {r:R (Fl×AF)} (g:r=f.bind λi σ=>.k (.n,J) σ) {us:ae aE}:Ev c X ai (II c X) r (do jL vs k;release us []) z:=by rw[g];exact Ev.bind H (Ev.of_lf h).hold λa b U e d i=>rf (dS U.ρ (.refl d.sr) d.fr rfl)
theorem SO (B:gL c) (D:ig c n) {o e:bk} {name:cI} {p pos:Pos} {y:aC} {F G:IE} (L:gZ e=aD) (to:dW m X.k o=aa F) (M:nm name=aa y) (N:dW m X.k e=aa G) (H:cM c X J n z):
  Ev c X ai (jO c X) (cS c.P (n+1) (.o F y G) J z.σ) (exec (.Assign [.Attribute o name p] e pos) X.e) z:=by
 refine dH (pV M) ?_;refine Ev.lift (λQ E h=>pE (tC L) rfl rfl h) ((gp D N H).bind H λv u U K q t=>.thenNext (.of_eq (xa ..) ((gp D to q).hold.bind q λO W g x j A=>.stand ?_)));induction O using aN with
 |l l=>
  refine A.loc_e λa R=>?_;show Ev c X ai (II c X) (match g.σ[l]? with|some (.i k d)=>if !(c.P.s k).contains y then .b else(match g.σ[d]? with|some (.n r)=>if decide (r.length<=500)then .k (.n,J) (g.σ.set d (.n (bA y v r)))else .b|_=>.b)|_=>.b) _ _;refine SR.loc_e j.sr R λw ob=>?_;induction w using b8 with
  |i k d=>
   show Ev c X ai (II c X) (if !(c.P.s k).contains y then .b else(match g.σ[d]? with|some (.n r)=>if decide (r.length<=500)then .k (.n,J) (g.σ.set d (.n (bA y v r)))else .b|_=>.b)) _ _;cases hf:(c.P.s k).contains y with
   |false=>trivial
   |true=>
    rw[aG (show¬(!ai)=ai from eT)];cases S:g.σ[d]? with
    |none=>trivial
    |some T=>induction T using b8 with|n r=>refine Ev.ite λV=>?_;refine Ap (Cn j.sr ob S) λC Y ds Z I=>?_;exact .doneU (f:=.k () _) j (Kk B j.sr I hf (t.step x.step) (bC V)) rfl|_=>trivial
  |_=>trivial
 |_=>trivial
theorem SP (t:ig c n) {o i e:bk} {p pos:Pos} {w x y:IE} (D:gZ e=aD) (to:dW m X.k o=aa w) (F:dW m X.k i=aa x) (G:dW m X.k e=aa y) (H:cM c X J n z):
  Ev c X ai (jO c X) (cS c.P (n+1) (.s w x y) J z.σ) (exec (.Assign [.Subscript o i p] e pos) X.e) z:=by
 refine Ev.lift (λQ E h=>pE (tC D) rfl rfl h) ((gp t G H).bind H λv u U A a g=>.thenNext (.of_eq (arm_assign_Subscript ..) ((gp t to a).hold.bind a λI K B j b q=>(gp t F b).hold.bind b λL M C d f r=>.stand ?_)));induction I using aN with|l l=>exact .doneU f (Ix f.sr (H.ok.room 7 #[0]) (q.step d.step) r ((g.step j.step).step d.step)) rfl|_=>trivial
end
end
section
set_option genInjectivity true
open PySem PySem.W PyProof.Rows PySem.SeqAt
section
variable {c:Cfg} {X:Fx} {I fr':AF} {n m:af} {z C:Zs} {E:aE->aM->Prop} {b:bD} {v:AV} {u:aE} {σ':St}
theorem Ev.nest {α β γ:Type} {V:nj α β} {r:R α} {k:eR β} {f:α->St->R γ} (H:cM c X I n z) (h:Ev c X aD V r k z) (i:r.bind f≠.b) {Q:β->aM->Prop} (q:∀a e C,Good c [] z C->cM c X I n C->V C a e->f a C.σ≠.b->r.bind f=f a C.σ->Q e C.s):bp c.M X.A k Q E z.s:=by induction r using cO with|k a d=>exact bS h (λe s' w=>w.elim λg w=>q a e ⟨g,d,s'⟩ w.1 (H.step w.1) w.2 i rfl) λj j w=>w.elim|_=>exact bJ rfl i
theorem IJ {s:aM} {A:cQ} {l:bh} {us:ae aE} {nn:af} {k:aq} {t:Tok} {v:aE} {Q:dt->aM->Prop} (f:s.heap.get? l=aa (mz us nn)) (g:0<=k) (a:k<2^63) (p:k<us.length)
  (q:∀h b,h.get? l=aa (mz (us.set k.toNat v) b)->gQ l s.heap h->Q () {s with heap:=h}):bp c.M A (setItem (.ref l) (.int k t) v) Q E s:=by
 have i:=iQ f;unfold setItem
 try with_reducible refine dk ?_
 first|refine aA (aW ?_)|skip
 refine aA (oL i.typeIs #[0] ?_);refine aA (lp i.typeIs slot_list_setitem
  (iO slot_list_setitem i.typeIs entry_list_setitem ?_ (args_list_setitem _ _ _)))
 show bp _ _ (Builtin.List.listSubscript? (.int k t)>>=_) _ _ s;refine aA (wpAny_listSubscript_int (fitsIndex_of g a) ?_);clear a;refine ck (h_ g) λj m=>?_;clear g;obtain rfl:=m;have r:=cb▸Go.mp p;have n:=Array.getElem?_eq_getElem r;refine aA (aA (wpAny_seqItemAt f rfl (aW ?_)));rw[n];refine ck (by simp only[sW,List.setIfInBounds_toArray];exact⟨_,rfl⟩:∃b,sW (·.setIfInBounds j v) (mz us nn)=mz (us.set j v) b) λb e=>?_;have d:(s.heap.update l (sW (·.setIfInBounds j v))).get? l=aa (mz (us.set j v) b):=by rw[iV _ f (by rw[e];rfl),e]
 exact aA (wpAny_setSeqItemAt f rfl (aW (aY .none rfl (aW (q _ b d (m9 ..))))))
theorem Up (G:ig c n) {x:cI} {px pos:Pos} {op:jI} {e:bk} {y:aC} {B:IE} (D:nm x=aa y) (F:X.k x=aa .local) (J:dW m X.k e=aa B) (H:cM c X I n z):
  Ev c X ai (jO c X) (cS c.P (n+1) (.g y op B) I z.σ) (exec (.AugAssign (.Name x px) op e pos) X.e) z:=by
 obtain rfl:=pV D;refine Ev.opts λa K=>?_;refine ba H.fr.locs λU L q=>?_;refine ba (q y a K) λt N O=>?_;refine Ev.lift (λQ E h=>show bp _ _ (do
  fC px
  let old<-loadName X.e (aZ y)
  let v<-jL [old] (eval e X.e)
  fC pos
  let new<-operate [old,v] (inplaceOp op old v)
  fC px
  bindName X.e (aZ y) new
  pure uW) _ _ _ from aA (dz (aA (qq H.ok.kind ((H.ok.kof _).trans F) L N h)))) ?_
 refine(gp G J H).hold.bind H λb w C o d f=>.stand ?_;have fin:∀(v:AV) (u:aE) (tk:Tok),Vz c C v u->bp c.M X.A (fC px>>=λt=>bindName X.e (aZ y) u>>=λt=>pure uW) (vF c (EP X ai) (jO c X) C (.n,{I with v:=bA y v I.v}) C.σ) pW {C.s with toks:=tk}:=λv u tk r=>
  have gt:Good c [] C ⟨C.ρ,C.σ,{C.s with toks:=tk}⟩:=.tok d.sr tk
  aA (dz (aA (wa (tP D F H.ok gt.sr (d.step gt).fr r λV R g2 f2 t=>aW (Ev.endS (gt.wide.trans g2) f2)))))
 have l:=O.step o.step;induction op using vi with
 |Add=>
  induction a using aN with
  |i i=>induction b using aN with|i j=>revert l;refine f.int_e λt1 l=>l.int_e λS=>aA (q_ (wb (fin _ _ _ (.int _ _))))|_=>trivial
  |s a=>
   induction b using aN with
   |s b=>
    refine Ev.ite λT=>?_;revert l;refine f.str_e λt1 l=>l.str_e λS=>aA (q_ (PyProof.Rows.iadd_str (λW tk=>?_) ?_))
    ·rw[AJ];exact fin _ _ tk (.str _ _)
    ·rw[pB,pB,<-ar];exact jh T
   |_=>trivial
  |_=>trivial
 |_=>trivial
structure Vn (op:jI) (ov iv a b:AV) (I:AF) (σ:St) (l:af) (k x y:aq) (vs:ae AV):Prop where
 eop:op=.Add
 eov:ov=.l l
 eiv:iv=.i k
 ea:a=.i x
 eb:b=.i y
 at_:σ[l]?=aa (.l vs)
 bd:0<=k/\k<vs.length/\cP k=ai
 eq:Md op ov iv a b I σ=.k (.n,I) (σ.set l (.l (vs.set k.toNat (.i (x+y)))))
set_option tactic.hygienic true in
theorem MX {op:jI} {c d a b:AV} {I:AF} {σ:St} {P:Prop} (h:Md op c d a b I σ≠.b) (q:∀l k x y vs,Vn op c d a b I σ l k x y vs->P):P:=by
 rcases op with⟨⟩<;>first|exact(h rfl).elim|skip
 rcases c with⟨⟩<;>first|exact(h rfl).elim|skip
 rcases d with⟨⟩<;>first|exact(h rfl).elim|skip
 rcases a with⟨⟩<;>first|exact(h rfl).elim|skip
 rcases b with⟨⟩<;>first|exact(h rfl).elim|skip
 rename_i l k x y
 have h:Mc l k x y I σ σ[l]?≠.b:=h;have q:∀vs,σ[l]?=aa (.l vs)->(0<=k/\k<vs.length/\cP k=ai)->Mc l k x y I σ σ[l]?=.k (.n,I) (σ.set l (.l (vs.set k.toNat (.i (x+y)))))->P:=λvs f g j=>q l k x y vs ⟨rfl,rfl,rfl,rfl,rfl,f,g,j⟩;generalize σ[l]?=w at h q;rcases w with _|o
 ·exact(h rfl).elim
 rcases o with⟨vs⟩|_|_|_|_<;>first|exact(h rfl).elim|skip
 by_cases e:0<=k/\k<vs.length/\cP k=ai
 ·exact q vs rfl e (aF e)
 ·exact(h (aG e)).elim
theorem SQ (T:ig c n) {o i e:bk} {p pos:Pos} {op:jI} {U V W:IE} (to:dW m X.k o=aa U) (Y:dW m X.k i=aa V) (te:dW m X.k e=aa W) (H:cM c X I n z):
  Ev c X ai (jO c X) (cS c.P (n+1) (.u U V op W) I z.σ) (exec (.AugAssign (.Subscript o i p) op e pos) X.e) z:=by
 refine .of_qe λJ=>?_;refine ck (⟨_,rfl⟩:∃r,r=cS c.P (n+1) (.u U V op W) I z.σ) λr Z=>?_;rw[<-Z];refine wpAny_AugAssign_SubscriptAny ?_ (λov iv new=>by have:=iR Y;clear Y;cases i<;>first|rfl|exact nomatch this);refine(gp T to H).nest H J λov u1 C K v A J L=>(gp T Y v).nest v J λiv u2 Wc j B D J M=>(Ev.of_lf (Hl (λS S S S S S h=>h) (H.ok.room 7 #[0]) B.sr (A.step j.step) D)).nest B J λa u3 Wd q E N J O=>(gp T te E).nest E J λb u4 f g t Q J R=>?_;have e5:=Z.trans (L.trans (M.trans (O.trans R)));have rl:=(A.step j.step).step (q.trans g).step;have rk:=D.step (q.trans g).step;have ra:=N.step g.step;have G:=(K.trans j).trans (q.trans g);clear L M O R A D N K j q g v B E Z;refine MX J λl k x y vs w=>?_;clear J;replace e5:=e5.trans w.eq;rw[w.eov]at rl;rw[w.eiv]at rk;rw[w.ea]at ra;rw[w.eb]at Q;rw[w.eop];refine rl.loc_e λd hd=>rk.int_e λtk=>ra.int_e λta=>Q.int_e λt4=>?_;refine d9 (t.sr.obj _ _ _ hd w.at_) λus nn ee rr=>?_;refine wb (IJ ee w.bd.1 (Int.lt_trans (mn w.bd.2.2).2 #[0]) (rr.length▸w.bd.2.1) λh' n' F hs=>?_);have st:fN [] f.ρ f.s.heap f.ρ h':=.turn t.sr hd hs ⟨_,F⟩;have g5:Good c [] f ⟨f.ρ,_,{f.s with heap:=h',toks:=f.s.toks+1}⟩:=.turn (o:=.l (vs.set k.toNat (.i (x+y)))) t.sr (f.s.toks+1) hd hs ⟨_,F⟩ (dY _ _ F (.set (.int _ _) k.toNat (rr.step st)));exact dY _ _ e5 (Ev.endS (G.trans g5).wide (t.step g5).fr)
end
end
section
open PySem PySem.W PyProof.Rows PySem.SeqAt
section
variable {M:Model} {A:cQ} {E:aE->aM->Prop} {s:aM} {I:dj} {J:gP} {l:ae gP} {e L:bh} {C:aE}
variable {U:aE}
theorem A6 (R:qo I l e C U L s.heap) {Q:dt->aM->Prop}
  (h:∀p,qo I l e C U L p->s.heap.UpToSlots p->Q () {s with heap:=p}):bp M A (setFlight (.ref e) (aa L)) Q E s:=by
 refine xE R λr t y z vs T D ts w j hd x k m u d B=>?_;have i:=(si.mp B).1;have other:∀b,b≠T->(s.heap.update T (Obj.mapFields (·.setIfInBounds 3 ((aa L).elim BX λf=>rawInt f)))).get? b=s.heap.get? b:=
  λb g=>Heap.get?_update_other _ _ (fR g)
 have a:∀b o,s.heap.get? b=aa o->(∀vs,o.data≠.fields vs)->b≠T:=λb o g c q=>c ts ((aw (u.symm.trans (q▸g)))▸d);refine aA (oW w hd x ?_);rw[aF (show(gR T !=BX)=ai from rfl)];refine wpAny_setField u d i (h _ ⟨λb o n=>(other b λq=>gF k (q▸n)).trans (r b o n),t,
  y.of_keeps λb o g c=>⟨o,(other b (a b o g c)).trans g,rfl⟩,?_⟩ λb o g c=>⟨o.slots,(other b (a b o g c)).trans g⟩)
 exact⟨z,vs,T,_,_,(other e (fR m)).trans w,j,hd,x,k,m,iV _ u (Obj.isFreed_of_fields (yv d _)),yv d _,(Array.getElem?_setIfInBounds_self_of_lt i).trans rfl⟩
theorem Kr (g:J.frame=aa L) (R:qo I l e C U L s.heap) (c:aE->aM->Prop)
  (h:∀a,qo I l e C U L a->s.heap.UpToSlots a->c (.ref e) {s with heap:=a}):BY M A J c (.ref e) s:=by
 refine B5 (id R) λb b b k vs T m ts i f hd j b=>?_;refine aA (oW i hd j ?_);rw[aG (show¬((gR T==BX)=ai)from eT),g]
 first
  |exact A6 R h
  |exact aA (aW (A6 R h))
end
section
variable {c:Cfg} {X:Fx} {C U:AF} {n m:af} {z I:Zs} {E:aE->aM->Prop} {b:bD} {v:AV} {u:aE} {J:St}
theorem Vo (p:vG c n) (ib:AS c n) {t:bk} {a b:ae et} {pos:Pos} {f:IE} {g j:ae IS} (r:dW m X.k t=aa f) (s:fJ (oB m X.k) a=aa g) (u:fJ (oB m X.k) b=aa j) (T:sA X) (H:cM c X C n z):
  Ev c X ai (jO c X) (cS c.P (n+1) (.i f g j) C z.σ) (exec (.If t a b pos) X.e) z:=by
 refine Ev.lift (λQ E h=>show bp _ _ (do
  fC pos
  if<-isTrue t X.e (eval t X.e)then execs a X.e else execs b X.e) _ _ _ from aA (dz h)) (Ev.bind H (p X C z m t f r H) λq l I o d e=>?_)
 obtain rfl:l=q:=e;induction l using b_ with|true=>exact ib X C I m a g s T d|false=>exact ib X C I m b j u T d
theorem Uq (g:ig c n) {e:bk} {pos:Pos} {d:IE} (i:dW m X.k e=aa d) (H:cM c X C n z):Ev c X ai (jO c X) (cS c.P (n+1) (.r d) C z.σ) (exec (.Return (aa e) pos) X.e) z:=
 Ev.lift (λQ E h=>show bp _ _ (do
  fC pos
  return Flow.ret (<-eval e X.e)) _ _ _ from aA (dz h)) ((gp g i H).bind H λv u I f a b=>Ev.pure a.sr ⟨a.fr,u,rfl,b⟩)
theorem Ur (is:SG c n) (ib:AS c n):AS c (n+1):=by
 intro X C z m i as h T H;have H:=H.less (eM n);induction i using aV with
 |nil=>refine dH (aw h) ?_;exact Ev.lift (λQ E h=>h) (Ev.next H)
 |cons a r=>
  refine ob h λj A h=>ob h λs B h=>?_;refine dH (aw h) ?_;refine .of_qe λw=>?_;have K:=is X C z m a j A T H;revert w;show(cS c.P n j C z.σ).bindX (λx σ=>match x with|(.n,C)=>dw c.P n s C σ|(.r v,C)=>.k (.r v,C) σ)≠.b->bp _ _ _ (Qr c X ai (jO c X) z ((cS c.P n j C z.σ).bindX (λx σ=>match x with|(.n,C)=>dw c.P n s C σ|(.r v,C)=>.k (.r v,C) σ)))
   (Er c X ai z ((cS c.P n j C z.σ).bindX (λx σ=>match x with|(.n,C)=>dw c.P n s C σ|(.r v,C)=>.k (.r v,C) σ))) _
  revert K;induction cS c.P n j C z.σ using cO with
  |b=>exactλl h=>bJ rfl h
  |x k J=>exactλK l=>gS (bS K (λl l q=>q.elim) λv s' t=>⟨k,J,rfl,t⟩)
  |k x J=>
   obtain⟨D,U⟩:=x;intro K w;refine gS (bS K (λf s' q=>?_) λl l e=>e.elim);refine cV q ?_;clear q;intro o g f1 f2;clear K;induction D using qr with
   |n=>
    obtain rfl:f=.next:=f2;refine bS ((ib X U ⟨o,J,s'⟩ m r s B T (H.stepS T g f1)).to_qe w) (λu p q=>?_) λv p q=>?_
    ·refine d9 q ?_;clear q;intro x d e q;exact⟨x,d,e,q.after g⟩
    ·refine d9 q ?_;clear q;intro k d e t;exact⟨k,d,e,t.afterS T H.out g⟩
   |r v=>refine ba f2 ?_;clear f2;intro u y f2;refine dq y ?_;exact⟨_,_,rfl,o,g,f1,u,rfl,f2⟩
end
section
variable {c:Cfg} {X:Fx} {U fr':AF} {n m:af} {z z₁:Zs} {E:aE->aM->Prop} {b:bD} {v:AV} {u:aE} {σ':St}
variable {J:au af} {β:Type} {all l:ae AV} {tn:AV->β->St->R (Fl×β)} {σ:St} {r:R (Fl×β)} {s':aM}
theorem xh.on {l d:ae gP} {b:ae bh} {base e:dj} (t:xh c l d z b σ' base s') (g:s'.heap.UpToSlots e):xh c l d z b σ' base {s' with heap:=e}:=
 ⟨t.sr,t.pre,t.keep,t.fixed,λa h m i=>g.ns (t.ns a h m i),t.gens,t.drawn,t.os⟩
theorem Er.looped {α:Type} {r:R α} {v:aE} (T:sA X) (g:X.A.frames=aa X.l) (t:Er c X ai z r v s'):notedBy c.M X.A X.e (λe s'=>BY c.M X.A X.e (Er c X ai z r) e s') v s':=by refine Ep t ?_;clear t;intro k σ' h e base a C b i x t;refine dq b ?_;refine EX.note (T.l.elim λo q=>⟨o,q.1⟩) g T.fr x λp a0 j m=>?_;exact Kr T.fr j _ λn d f=>⟨k,σ',h,e,base,a,C,rfl,i,.held a0 d,(t.on m).on f⟩
noncomputable abbrev Cs (c:Cfg) (n:af) (a:Tgt) (b:ae IS):AV->AF->St->R (Fl×AF):=λv U σ=>match il a v U σ with|some r=>dw c.P n b r.1 r.2|none=>.b
noncomputable abbrev D_ (a:Tgt) (J:au af):bD:=match a with|.p _=>J.isSome|_=>ai
noncomputable abbrev wI (c:Cfg) (n:af) (a:Tgt) (b:ae IS) (U:AF):AV->St->R (Fl×AF):=λs σ=>(opt σ (items s σ)).bindX λl σ=>if D_ a l.2 then eJ l.2 l.1 (Cs c n a b) l.1 U σ else .b
theorem wJ {b:β} (h:eJ J all tn l b σ=r) (a:r≠.b):dU J all σ=ai:=by cases q:dU J all σ with|true=>rfl|false=>exact bJ (h.symm.trans (by clear h;cases l<;>exact aG (by rw[q];exact eT))) a
theorem MY {b:β} (h:eJ J all tn [] b σ=r) (a:r≠.b):r=.k (.n,b) σ:=h.symm.trans (aF (wJ h a))
theorem Ks {a:AV} {b:β} (h:eJ J all tn (a::l) b σ=r) (c:r≠.b):
  (tn a b σ).bindX (λx σ=>match x with|(.n,b)=>eJ J all tn l b σ|(.r v,b)=>.k (.r v,b) σ)=r:=(aF (wJ h c)).symm.trans h
theorem SS {I:bh} {xs:ae AV} {P:af->fK->Prop} {A:cQ} {ko:KO} {s:aM} (f:AR c A z₁ I J xs P) {t:bk} {b:Tgt} {v:aE} {i:af} (d:pU ko t=aa b) (g:D_ b J=ai) (h:IT I P i s.heap) {Q:dt->aM->Prop} (e:Q () s):bp c.M A (qm t (.ref I) v) Q E s:=by induction t using fL with|Name x p=>exact aW e|Tuple ts k p=>refine ba (bK.mp d) λxs j a=>?_;obtain rfl:=a;exact f.own g i s Q E _ v h e|_=>exact bO d
theorem Us (ih:ig c n) (ib:AS c n) {t iter:bk} {body:ae et} {pos:Pos} {o:Tgt} {d:IE} {g:ae IS} (tt:pU X.k t=aa o) (ti:dW m X.k iter=aa d) (tb:fJ (oB m X.k) body=aa g) (T:sA X) (H:cM c X U n z):
  Ev c X ai (jO c X) (cS c.P (n+1) (.f o d g) U z.σ) (exec (.For t iter body [] pos) X.e) z:=by
 have K:=gp ih ti H;refine .of_qe λD=>wpAny_For ?_ (λv=>Cp (iR ti) v);revert K D;show _->(gc (fG d) (bg c.P n U d z.σ)).bindX (wI c n o g U)≠.b->bp c.M X.A _ (λx y=>bp c.M X.A _ (λit G=>lB c.M X.A _ (λr s'=>match r with|.ok f=>Qr c X ai (jO c X) z ((gc (fG d) (bg c.P n U d z.σ)).bindX (wI c n o g U)) f s'|.error e=>BY c.M X.A X.e (Er c X ai z ((gc (fG d) (bg c.P n U d z.σ)).bindX (wI c n o g U))) e s') G) (Er c X ai z ((gc (fG d) (bg c.P n U d z.σ)).bindX (wI c n o g U))) y) (Er c X ai z ((gc (fG d) (bg c.P n U d z.σ)).bindX (wI c n o g U))) _;induction bg c.P n U d z.σ using cO with
 |b=>exactλW h=>bJ (by cases fG d<;>rfl) h
 |x k σ'=>induction fG d using b_ with|false=>exactλW h=>bJ rfl h|true=>exactλK W=>bS K (λW W q=>q.elim) λv s' t=>dY k σ' rfl t.toS
 |k sv j=>
  intro K;refine ck (⟨_,rfl⟩:∃r,r=(gc (fG d) (R.k sv j)).bindX (wI c n o g U)) λr E=>?_;rw[<-E];intro D;have E:r=wI c n o g U sv j:=E.trans (by cases fG d<;>rfl);refine bS K (λu y q=>?_) λW W e=>e.elim;refine ba q ?_;clear q;intro Q g1 r1;have H1:=H.step g1;cases hi:items sv j with
  |none=>exact bJ (E.trans (by unfold wI;rw[hi];rfl)) D
  |some p=>
   obtain⟨xs,J⟩:=p;have E:r=(if D_ o J then eJ J xs (Cs c n o g) xs U j else .b):=E.trans (by unfold wI;rw[hi];rfl);by_cases w:D_ o J=ai
   rotate_left
   ·exact bJ (E.trans (aG w)) D
   have l:=(E.trans (aF w)).symm;clear E K;refine AY [X.e.locals] hi H1 r1 λI P G It hI We Y Wf L=>?_;refine codeAny_forLoop_any (λk s'=>∃i z' B,i+k=xs.length/\z'.s=s'/\kQ c [X.e.locals] ⟨Q,j,y⟩ I P X B i z'/\eJ J xs (Cs c n o g) (xs.drop i) B z'.σ=r) ?_ xs.length (tG 0 _ U (eQ _) rfl L l);clear L l;intro k s zi;refine zr zi ?_;clear zi;intro i z' B F C La l;refine dH C ?_;have hex:∀x∈[X.e.locals],x∈[X.e.locals]\/y.heap.get? x=ah:=λx q=>.inl q;have Z:=λq=>Y (aL.mp q);refine xQ It hI We Y Wf La (wJ l D) (λa va h5 Wg ha L5 Wh=>?_) λh5 Wi g5 f5=>?_
   ·have Wc:=(aP.mp ha).1;rw[Cq ha]at l;have l:=Ks l D;have H5:=L5.here H.ok;refine SS It tt w L5.it ?_;cases S:il o a B z'.σ with
    |none=>exact bJ (l.symm.trans (by unfold Cs;rw[S];rfl)) D
    |some N=>
     have e1:Cs c n o g a B z'.σ=dw c.P n g N.1 N.2:=by unfold Cs;rw[S]
     rw[e1]at l;refine A4 (z:=⟨z'.ρ,z'.σ,{z'.s with heap:=h5,toks:=Wg}⟩) tt (show il o a B z'.σ=aa (N.1,N.2)from S) H5 Wh λs6 g6 f6=>?_;have H6:=H5.stepS T g6 f6;have L6:=L5.step g6 f6 H6.out Z hex;have G6:=g1.wide.trans L6.good;refine bS ((ib X N.1 ⟨z'.ρ,N.2,s6⟩ m body g tb T H6).to_qe λq=>D (l.symm.trans (by show(dw c.P n g N.1 N.2).bindX _=_;rw[q];rfl))) (λf O q=>?_) λv O q=>?_
     ·refine Ma q ?_;clear q;intro C V e Wd g7 f7 q;obtain⟨fl,Wj⟩:=C;rw[e]at l;clear e;induction fl using qr with|n=>obtain rfl:f=.next:=q;exact⟨k-1,#[41,ag #[25,F,Wc]],i+1,⟨Wd,V,O⟩,Wj,aB #[69,F,ag #[25,F,Wc]] #[70,F,d8 _ _],rfl,L6.step g7 f7 (H6.stepS T g7 f7).out Z hex,l⟩|r v=>refine ba q ?_;clear q;intro u C q;refine dq C ?_;exact⟨_,_,l.symm,Wd,G6.trans g7,f7,u,rfl,q⟩
     ·refine d9 q ?_;clear q;intro k' V e t;rw[e]at l;exact Er.looped T H.ok.frames (dY k' V l.symm (t.afterS T H.out G6))
   ·rw[cF Wi]at l;exact nz (dY _ _ (MY l D) (Ev.endS (g1.wide.trans g5) f5))
end
end
section
open PySem
section
variable {U:Program} {w:fb} {A:cQ} {E:aE->aM->Prop} {R:v_->aM->Prop} {h:dj} {g:bZ w6} {d:Drawn} {t:af} {os:q8}
variable {nm q:cI} {C N:bh} {bs J bmN:ae aE} {hdct:bD} {sn:ae cI} {sub:ae aE} {ab:bD} {col:au bD} {dd:au bh} {k0 k1 k2 k3 k5:au aE} {Bn I inN:aC}
theorem MZ {M:Model} (b:qt Bn I inN bmN) (e:J.contains (.type Bn)=ai) {rest:ae aE} {Q:dt->aM->Prop} (c:h.get? C=aa (mY nm q C N bs J hdct sn sub ab col dd k0 k1 k2 k3 k5 I))
  (i:Q () ⟨h,g,d,t,os⟩):bp M A (checkBuiltinCall I ⟨.ref C::rest,[]⟩) Q E ⟨h,g,d,t,os⟩:=by
 have a:(gR C::J).contains (.type Bn)=ai:=by rw[lN,e,nY]
 have f:=b.noStar;unfold checkBuiltinCall;rw[b.newKind,b.newSplit,b.newRow];dsimp only
 repeat(first|refine jv c ?_|(refine nh c ?_;rw[a])|refine wpAny_staticBase_exc c ?_|refine wpAny_madeBy_exc c ?_|simp only[sJ,nP,qZ]|wp_step)
 exact i
theorem SU (a:qt Bn I inN bmN) (b:J.contains (.type Bn)=ai) (l:J.contains (.type "AttributeError")=aD) (m:J.contains (.type "NameError")=aD) {rest:ae aE} (c:h.get? C=aa (mY nm q C N bs J hdct sn sub ab col dd k0 k1 k2 k3 k5 I))
  (n:R (.ok (.ret (.ref (h.objs.size+1)))) ⟨(h.push {cls:=.type "tuple",data:=.seq rest.toArray}).push
   {cls:=.ref C,data:=.fields #[.ref h.objs.size,.none,.none,.none,.bool aD,.none]},g,d,t,os⟩) (e:rest.length<=sizeLine):
  lB (model U w) A (.builtin I ⟨.ref C::rest,[]⟩) R ⟨h,g,d,t,os⟩:=by
 have f:=a.ends;have i:(gR C::J).contains (.type Bn)=ai:=by rw[lN,b,nY]
 have j:(gR C::J).contains (.type "AttributeError")=aD:=by rw[lN,l];rfl
 have k:(gR C::J).contains (.type "NameError")=aD:=by rw[lN,m];rfl
 refine codeAny_builtinAt a.entry ?_;refine vk ?_;refine vk (wpAt_stack λp below=>wpAt_of_wpAny ?_)
 wp_walk
 refine wpAt_of_wpAny ?_;rw[a.owner]
 repeat(first|with_reducible refine wpAny_madeHere_exc a.canon c ?_|with_reducible refine jv c ?_|(with_reducible refine nh c ?_;first|rewrite[i]|rewrite[j]|rewrite[k])|wp_step)
 rw[rh];exact n
theorem Kt {name:cI} {mN:cI->au aE} {v:aE} {Q:au aE->aM->Prop}
  (a:h.get? C=aa (mY nm q C N bs J hdct sn sub ab col dd k0 k1 k2 k3 k5 I)) (b:h.Ns N mN) (c:mN name=aa v)
  (e:Q (aa v) ⟨h,g,d,t,os⟩):bp (model U w) A (typeLookup (.ref C) name) Q E ⟨h,g,d,t,os⟩:=by
 rw[typeLookup_eq];refine aA (wpAny_mroOf_exc a ?_);rw[lookupAlong_cons];refine aA (wpAny_classOwn_exc a b ?_);rw[c];exact aW e
theorem E8 (l:qt Bn I inN bmN) (j:J.contains (.type Bn)=ai) (v:J.contains (.type "AttributeError")=aD) (y:J.contains (.type "NameError")=aD) {mN:cI->au aE} {rest:ae aE} {fI:bh} {oI:fK} {Q:Fin->aM->Prop}
  (k:h.get? C=aa (mY nm q C N bs J hdct sn sub ab col dd k0 k1 k2 k3 k5 I)) (z:h.Ns N mN) (B:mN "__init__"=aa (.ref fI))
  (m:h.get? fI=aa oI) (n:oI.cls=.type "function")
  (D:∀s e,Heap.MadeExcOf h s e (.ref C) rest->
   bp (model U w) A (call (.ref fI) (.ref e::rest)) (λr s'=>r=.none/\Q (.done (.ret (.ref e))) s') E ⟨s,g,d,t,os⟩) (hrest:rest.length<=sizeLine):
  bp (model U w) A (Builtin.«type.__call__» ⟨.ref C::rest,[]⟩) Q E ⟨h,g,d,t,os⟩:=by
 repeat(first|with_reducible refine jv k ?_|with_reducible refine wpAny_madeBy_exc k ?_|wp_step)
 refine codeAny_call_builtin_code (yw _ l.quiet) (MZ l j k ?_);refine SU l j v y k ?_ hrest;have a:=bN {cls:=.ref C,data:=.fields #[.ref h.objs.size,.none,.none,.none,.bool aD,.none]}
  (bN {cls:=.type "tuple",data:=.seq rest.toArray} k)
 have c:=bN {cls:=.ref C,data:=.fields #[.ref h.objs.size,.none,.none,.none,.bool aD,.none]}
  (bN {cls:=.type "tuple",data:=.seq rest.toArray} m)
 have i:((h.push {cls:=.type "tuple",data:=.seq rest.toArray}).push {cls:=.ref C,data:=.fields #[.ref h.objs.size,.none,.none,.none,.bool aD,.none]}).Ns N mN:=
  kN z λo F G e r=>mM o F G (bN _ (bN _ e)) r
 have f:((h.push {cls:=.type "tuple",data:=.seq rest.toArray}).push
   {cls:=.ref C,data:=.fields #[.ref h.objs.size,.none,.none,.none,.bool aD,.none]}).get? (h.objs.size+1)=aa
   {cls:=.ref C,data:=.fields #[.ref h.objs.size,.none,.none,.none,.bool aD,.none]}:=by heap_get
 have p:(gR C::J).contains (.ref C)=ai:=by simp
 repeat(first|with_reducible refine jv f ?_|(with_reducible refine nh a ?_;rw[p])|wp_step)
 refine Kt a i B ?_;refine dk (aA ?_);refine aA (yn (T:="function") (aY _ c n) ?_);rw[aF #[0]];refine aW (aA (bS (D _ (h.objs.size+1) ⟨λb o H=>bN _ (bN _ H),eL (eM _),h.objs.size,f,eL (bf _),?_⟩) (λr s' u=>?_) λK K x=>x))
 ·exact bN _ (Heap.get?_push_at rfl rfl)
 ·refine dp u ?_;clear u;intro L M
  wp_walk
  exact M
theorem P1 (j:qt Bn I inN bmN) (c:J.contains (.type Bn)=ai) (k:J.contains (.type "AttributeError")=aD) (l:J.contains (.type "NameError")=aD) {mN:cI->au aE} {rest:ae aE} {fI:bh} {oI:fK} {Q:aE->aM->Prop}
  (a:h.get? C=aa (mY nm q C N bs J hdct sn sub ab col dd k0 k1 k2 k3 k5 I)) (m:h.Ns N mN) (n:mN "__init__"=aa (.ref fI))
  (f:h.get? fI=aa oI) (i:oI.cls=.type "function")
  (o:∀b e,Heap.MadeExcOf h b e (.ref C) rest->
   bp (model U w) (A.under (.builtin "type.__call__" ⟨.ref C::rest,[]⟩)) (call (.ref fI) (.ref e::rest)) (λr s'=>r=.none/\Q (.ref e) s') E ⟨b,g,d,t,os⟩) (hrest:rest.length<=sizeLine):
  bp (model U w) A (call (.ref C) rest) Q E ⟨h,g,d,t,os⟩:=by
 have f1:=tc_lookup;have f2:=tc_bind (.ref C);have s:(⟨h,g,d,t,os⟩:aM).TypeIs (.ref C) "type":=aY _ a rfl;refine s_ (codeAny_of_tree ?_)
 repeat(any_goals (first|assumption|with_reducible refine jv a ?_|wp_step))
 refine⟨rfl,?_⟩;refine codeAny_call_builtin_at (yw _ (by decide+kernel)) entry_typeCall (wpAny_check_type_call_sub a (E8 (hrest:=hrest) j c k l a m n f i λb e p=>?_));exact o b e p
end
end
section
open PySem PySem.W PyProof.Rows PySem.SeqAt
section
variable {c:Cfg} {X:Fx} {fr fr':AF} {n m:af} {z z₁:Zs} {I:dj}
theorem pC.hidden {d:ae bh} (g:∀a o,z.s.heap.get? a=aa o->I.get? a=aa o) {l:ae gP}:pC c l z->(∀x∈l,x.locals∈d)->I.FunFrames (yX z.s.heap d) l:=by induction l with|nil=>exactλh h=>trivial|cons x l i=>intro f e;have q:=f x aH;exact q.obj.elim λo r=>dy q.nm (qH x.locals o q.fr (uh _ (e x aH)) (g _ _ r.1) r.2.2) (i (λy b=>f y (aK _ b)) λy b=>e y (aK _ b))
theorem M0 {k:aC} {C e:bh} {s':aM} (Z:fz c z) (F:pC c X.l z) (v:c.ca k=aa C) (d:∀a o,z.s.heap.get? a=aa o->s'.heap.get? a=aa o) (w:s'.gens=z.s.gens) (hd:s'.drawn=z.s.drawn) (y:s'.os=z.s.os)
  (g:z.s.heap.get? e=ah) (A:∃h vs a0,s'.heap.get? e=aa h/\h.cls=.ref C/\h.data=.fields vs/\vs[0]?=aa a0/\vs[1]?=aa .none):oG c X ai z k z.σ (.ref e) s':=by
 have out:∀a,a∈X.l.map (·.locals)->a∉z.ρ/\c.h₀.get? a=ah/\∃o,z.s.heap.get? a=aa o/\¬gK o:=λa p=>by refine ba (bT.mp p) λx i j=>?_;clear p;refine dH j ?_;have q:=F x i;exact dy q.new q.base (q.obj.elim λo r=>aY o r.1 r.2.1)
 have t:∀a o,gK o->z.s.heap.get? a=aa o->(yX z.s.heap (X.l.map (·.locals))).get? a=aa o:=λa o B q=>mZ _ q λb=>(out a b).2.2.elim λE r=>r.2 (aw (q.symm.trans r.1)▸B);refine⟨e,yX z.s.heap (X.l.map (·.locals)),z.ρ,C,rfl,v,.made (λa o q=>d a o (of_hideAll _ q)) ?_ (pC.hidden d F λx i=>iw (f:=(·.locals)) i) A,Z.keep t λa o n q=>mZ _ q λb=>n.elim (out a b).1 λq=>gF (out a b).2.1 q,aY ([]) ((aJ _).symm) (λu q=>nomatch q),λa o u D q=>mZ _ q λb=>(bT.mp b).elim λx r=>D x r.1 r.2.symm,t,λa u m b=>Ns.at b λo q=>d _ _ q,w,hd,y⟩;cases q:(yX z.s.heap (X.l.map (·.locals))).get? e with|none=>rfl|some o=>exact gF g (of_hideAll _ q)
end
structure E9 (s:aM) (e C:bh) (s':aM):Prop where
 keep:∀a o,a≠e->s.heap.get? a=aa o->s'.heap.get? a=aa o
 obj:∃oe t,s'.heap.get? e=aa oe/\oe.cls=.ref C/\oe.data=.fields #[.ref t,.none,.none,.none,.bool aD,.none]
 gens:s'.gens=s.gens
 drawn:s'.drawn=s.drawn
 os:s'.os=s.os
structure IK where
 (nm q:cI) (N:bh) (bs bm:ae aE) (hdct:bD) (sn:ae cI) (sub:ae aE) (ab:bD) (col:au bD) (dd:au bh) (k0 k1 k2 k3 k5:au aE) (newId inN:aC) (bmN:ae aE) (Bn:aC) (mN:cI->au aE) (fI:bh) (oI:fK)
noncomputable abbrev IK.obj (x:IK) (C:bh):fK:=mY x.nm x.q C x.N x.bs x.bm x.hdct x.sn x.sub x.ab x.col x.dd x.k0 x.k1 x.k2 x.k3 x.k5 x.newId
structure Ut (c:Cfg) (C:bh) (x:IK):Prop where
 get:c.h₀.get? C=aa (x.obj C)
 facts:qt x.Bn x.newId x.inN x.bmN
 base:x.bm.contains (.type x.Bn)=ai
 exc:x.bm.contains (.type "BaseException")=ai
 noA:x.bm.contains (.type "AttributeError")=aD
 noN:x.bm.contains (.type "NameError")=aD
 ns:c.h₀.Ns x.N x.mN
 ini:x.mN "__init__"=aa (.ref x.fI)
 fn:c.h₀.get? x.fI=aa x.oI
 fc:x.oI.cls=.type "function"
 init:∀(A:cQ) (E:aE->aM->Prop) (s:aM) (e:bh) (i:aq) (t:Tok) (tt:bh) (Q:aE->aM->Prop),A.handled=ah->A.depth<990->A.units<9900->(∀a o,c.h₀.get? a=aa o->s.heap.get? a=aa o)->
  s.heap.get? e=aa {cls:=.ref C,data:=.fields #[.ref tt,.none,.none,.none,.bool aD,.none]}->(∀s',E9 s e C s'->Q .none s')->bp c.M A (call (.ref x.fI) [.ref e,.int i t]) Q E s
noncomputable abbrev sP (c:Cfg):Prop:=∀k C,c.P.x k=ai->c.ca k=aa C->∃x,Ut c C x
section
variable {M:Model} {A:cQ} {E:aE->aM->Prop} {I:gP} {C:bh} {J:IK}
theorem Ku {s:aM} {x:eR aE} {Q:Flow->aM->Prop} (c:J.bm.contains (.type "BaseException")=ai) (n:A.handled=ah)
  (h:bp M A x (λv a=>∃e f t,v=.ref e/\a.heap.get? C=aa (J.obj C)/\
   a.heap.get? e=aa f/\f.cls=.ref C/\f.data=.fields #[.ref t,.none,.none,.none,.bool aD,.none]/\E (.ref e) a) E s):
  bp M A (raiseStmt I (aa x) ah) Q E s:=by
 have i:(gR C::J.bm).contains (.type "BaseException")=ai:=by rw[lN,c,nY]
 refine aA (bS h (λv a b=>?_) λo o x=>x);refine H3 b ?_;clear b;intro e f t j k p l m q;refine dq j ?_;obtain⟨r,g,d,tk,os⟩:=a;obtain⟨u,w,y,sl⟩:=f;dsimp only at l m;subst l m
 repeat(first|with_reducible refine jv p ?_|with_reducible refine jv k ?_|(with_reducible refine nh k ?_;rw[i])|wp_step)
 exact wpAny_raiseNew_none n q
end
section
variable {c:Cfg} {X:Fx} {I fr':AF} {n m:af} {z z₁:Zs}
theorem Kv {ast:bk} {e:IE} (i:Cc ast=ai) (h:dW m X.k ast=aa e):∃f a pos j b,ast=.Call f [a] [] pos/\wy f=ah/\e=.f j [b]/\∃m',dW m' X.k f=aa j/\dW m' X.k a=aa b:=by refine cV (vz h) λm' c h c=>?_;induction ast using fL with|Call f args n pos=>refine nk i λo q=>g_ h λr h=>nk r λs c=>ob h λvs d t=>?_;refine ck (nS.mp q) λa u=>?_;obtain rfl:=j_ u;obtain rfl:n=[]:=fm.mp s;have l:=jc.mp o;refine ob d λb v h=>?_;obtain rfl:=aw h;refine CZ t (λp w c=>bO (l.symm.trans w)) λc h=>ob h λg x h=>jN h ⟨f,a,pos,g,b,rfl,l,rfl,m',x,v⟩|_=>exact nomatch i
theorem Ev.thrown {k:aC} {σ':St} {kk:eR Flow} (h:bp c.M X.A kk (λa a=>False) (oG c X ai z k σ') z.s):Ev c X ai (jO c X) (.x k σ') kk z:=h
theorem P2 (B:gL c) (Y:sP c) (U:ig c 1) {e:bk} {pos:Pos} {K:IE} (N:Cc e=ai) (V:dW m X.k e=aa K) (T:sA X) (H:cM c X I (n+1) z):Ev c X ai (jO c X) (cS c.P (n+1) (.x K) I z.σ) (exec (.Raise (aa e) ah pos) X.e) z:=by
 refine Eo (Kv N V) λf a p f' a' O hf Q m' tf R=>?_;refine dq O ?_;obtain rfl:=Q;clear V;induction f' using BZ with
 |g x=>
  induction a' using BZ with
  |l v=>
   induction v using aN with
   |i i=>
    show Ev c X ai (jO c X) (match c.P.g x with|some (.c W)=>if c.P.x W then .x W z.σ else .b|_=>.b) _ _;cases Z:c.P.g x with
    |none=>trivial
    |some g=>
     induction g using aN with
     |c k=>
      refine Ev.ite λhx=>?_;have H1:cM c X I 1 z:=H.less (mG (fO n));have k1:Ev c X aD (Vz c) (.k (.c k) z.σ) (eval f X.e) z:=(show bg c.P 1 I (.g x) z.σ=.k (.c k) z.σ by show opt _ _=_;rw[Z];rfl)▸U X I z m' f _ tf H1;refine Ev.thrown ?_;rw[arm_exec_Raise];refine aA (dz ?_);show bp _ _ (raiseStmt _ (aa (do let v<-eval (.Call f [a] [] p) X.e;fC pos;pure v)) ah) _ _ _;refine El (B.glob x _ Z) λj j j j j j N=>?_;refine ck (N.cls_e λC h=>⟨C,h⟩:∃C,c.ca k=aa C) λC L=>?_;refine ck (Y k C hx L) λq D=>?_;rw[C_ hf];refine Ku (C:=C) (J:=q) D.exc H.ok.hh (aA (aA (bS k1 (λu y w=>?_) λj j e=>e.elim)));refine ba w ?_;clear w;intro r g1 r1;have H2:=H1.step g1;obtain rfl:u=.ref C:=r1.cls_e λC' h=>aU gR (aw (h.symm.trans L));have pa:=wD (X:=X) (asts:=[a]) p (es:=[.l (.i i)]) (m:=m') (by show(dW m' X.k a).bind _=_;rw[R];rfl);refine zm (P:=λh=>wC c.M h (.ref C)) (by rw[pa.1];rfl) (λh hk=>hk) ?_;rw[ru (iR R)];refine w' (Calls.spliced_cons (bS (U X I ⟨r,z.σ,y⟩ m' a _ R H2) (λWc d w=>?_) λj j e=>e.elim));refine ba w ?_;clear w;intro ρ₂ g2 S;refine aW ?_;revert S;refineλS=>S.int_e λt=>?_;have G:=g1.trans g2;have s:SR c ρ₂ z.σ d.heap:=g2.sr;refine⟨keeps_K (B.keep _ _ L) d.heap (B.inH (z:=⟨ρ₂,z.σ,d⟩) s),?_⟩;refine P1 (rest:=[.int i t]) (hrest:=by size_fits) D.facts D.base D.noA D.noN (s.base _ _ D.get) (Ns.at D.ns λo e=>s.base _ o e) D.ini (s.base _ _ D.fn) D.fc λh' e E=>?_;refine ba E.there λtt he j=>?_;refine D.init (X.A.under _) _ {d with heap:=h'} e i t tt _ H.ok.hh (de (jF (mG (fO n)) X.A.depth) (ud H.ok.dep #[0])) ?_ (λa o q=>E.keeps _ _ (s.base a o q)) he λs' F=>?_
      ·exact de (w4 (dI (eG _ _) (nO H.ok.un)) 1) #[0]
      refine⟨rfl,aA (dz (aW ?_))⟩;refine eV F.obj λoe t' q1 q2 q3=>?_;have kp:∀a o,d.heap.get? a=aa o->s'.heap.get? a=aa o:=λa o q=>F.keep a o (λK=>gF E.new (K▸q)) (E.keeps _ _ q);exact⟨e,oe,t',rfl,kp _ _ (s.base _ _ D.get),q1,q2,q3,oG.after H.out G (M0 (z:=⟨ρ₂,z.σ,d⟩) s (H.step G).out L kp F.gens F.drawn F.os E.new ⟨oe,_,_,q1,q2,q3,rfl,rfl⟩)⟩
     |_=>trivial
   |_=>trivial
  |_=>trivial
 |_=>trivial
end
section
variable {c:Cfg} {X:Fx} {C fr':AF} {n m:af} {z z₁:Zs}
theorem Hu {t:bk} {y:aC} {ko:KO} (h:pU ko t=aa (.v y)):∃x p,t=.Name x p/\nm x=aa y/\ko x=aa .local:=by
 induction t using fL with
 |Name x p=>
  refine ob h λd ty h=>?_;by_cases a:(ko x==aa .local)=ai
  ·rw[aF a]at h;injection(aw h)with b;refine dH b ?_
   exact fD x p rfl ty (eq_of_beq a)
  ·rw[aG a]at h;exact g_ h λc h=>nomatch aw h
 |Tuple ts k p=>exact(bK.mp h).elim λc q=>nomatch q.2
 |_=>exact bO h
theorem SV (d:∀m,m<=n->ig c m) (o:∀m,m<=n->vG c m) {t v:bk} {pos:Pos} {e:IE} {f:Tgt} {i:IS} (b:(!(uy t&&uy v))=ai) (j:pU X.k t=aa f) (l:dW m X.k v=aa e) (a:D3 e (gZ v) f=aa i) (H:cM c X C n z):
  Ev c X ai (jO c X) (cS c.P (n+1) i C z.σ) (exec (.Assign [t] v pos) X.e) z:=by
 cases g:gZ v with
 |false=>exact O6 (d n (bf n)) (tC g) (AL b) j l a H
 |true=>
  rw[g]at a;induction f using Ak with
  |v y=>refine U2 a λa=>?_;refine dH (aw a) ?_;refine eV (Hu j) λx p h ty q=>?_;clear b;obtain rfl:=h;induction n using gC with|zero=>trivial|succ k=>exact SN (cc:=ai) (d _ (bf _)) (d k (eM k)) (o k (eM k)) g ty q l H
  |_=>exact bO a
theorem Uu (B:gL c) (Y:sP c) (N:ig c 1) (G:∀m,m<=n->ig c m) (I:∀m,m<=n->vG c m) (ib:AS c n):SG c (n+1):=by
 intro X C z m ast i h T J;have H:=J.less (eM n);have j:=G n (bf n);obtain⟨m,rfl,h,_⟩:=Ce h;induction ast using PySem.Stmt.casesOn with
 |Expr e pos=>refine g_ h λl h=>ob h λK g h=>g_ h λd h=>?_;refine dH (aw h) ?_;exact Vm j (AL l) g H
 |Assign ts v pos=>
  refine ob h λt O h=>ob h λe g P=>?_;refine dq (j_ O) ?_;refine CZ P (λp r h=>g_ h λl h=>ob h λL to h=>ob h λy ty h=>EI r▸jN h (SO B j (AL l) to ty g H)) λd h=>CZ h (λp r h=>g_ h λl h=>ob h λL to h=>ob h λM s h=>(Hg r).elim λd q=>q▸jN h (SP j (AL (br.mp l).1) to s g H))
   λd h=>g_ h λA h=>ob h λQ u h=>SV G I A u g h H
 |AugAssign t op v pos=>
  exact ob h λe g h=>CZ h (λx R h=>g_ h λD h=>ob h λy ty h=>(tK R).elim λd q=>q▸jN h (Up j ty (eq_of_beq D) g H))
   λd h=>ob h λp r h=>g_ h λd h=>ob h λL to h=>ob h λM s h=>(Hg r).elim λd q=>q▸jN h (SQ j to s g H)
 |If t a b pos=>refine ob h λW u h=>ob h λZ S h=>ob h λU E h=>?_;refine dH (aw h) ?_;exact Vo (I n (bf n)) ib u S E T H
 |For t it body F pos=>refine g_ h λw h=>ob h λQ u h=>ob h λM s h=>ob h λU E h=>?_;refine dH (aw h) ?_;obtain rfl:F=[]:=fm.mp w;exact Us j ib u s E T H
 |Return e pos=>refine ob h λe w h=>?_;obtain⟨K,g,rfl⟩:=bK.mp h;exact w▸Uq j g H
 |Raise e k pos=>refine g_ h λD h=>ob h λe w h=>g_ h λV h=>?_;obtain⟨K,g,rfl⟩:=bK.mp h;exact w▸jc.mp D▸P2 B Y N V g T J
 |Try body hs o f pos=>refine g_ h λd h=>ob h λd d h=>ob h λd d h=>g_ h λd h=>ob h λd d h=>ob h λd d h=>ob h λd d h=>?_;refine dH (aw h) ?_;trivial
 |_=>exact bO h
structure O7 (c:Cfg) (n:af):Prop where
 e:ig c n
 t:vG c n
 all:D6 c n
 bo:Iy c n
 es:wB c n
 kv:E1 c n
 o:Kh c n
 cl:Kl c n
 f:O0 c n
 b:AS c n
 s:SG c n
theorem P4:O7 c 0:=⟨λa a a a a a a a=>trivial,λa a a a a a a a=>trivial,λa a a a a a a a a=>trivial,λa a a a a a a a a a=>trivial,λa a a a a a a a a=>trivial,λa a a a a a a a a a a a=>trivial,λa a a a a a a a=>trivial,λa a a a a a a a a=>trivial,
 λa a a a a a a a a a a a a a a=>.inl rfl,λa a a a a a a a a=>trivial,λa a a a a a a a a=>trivial⟩
theorem Ea (B:gL c) (Y:sP c):∀n,∀m,m<=n->O7 c m:=by
 have z:=P4 (c:=c);have one:=O4 B z.e z.t z.bo z.es z.o z.kv z.cl;intro n;induction n with
 |zero=>exactλm h=>Nat.le_zero.mp h▸z
 |succ n a=>
  intro m h;rcases Nat.lt_or_eq_of_le h with h|rfl
  ·exact a m (sG h)
  ·have p:=a n (bf n);have g:=λm d=>(a m d).e;exact⟨O4 B p.e p.t p.bo p.es p.o p.kv p.cl,Uj B g p.t p.all,PT p.t p.all,SE p.e p.bo,SD p.e p.es,SI p.e p.kv,Ui p.e,Ul B p.f,Uk B p.b,Ur p.s p.b,Uu B Y one g (λm d=>(a m d).t) p.b⟩
end
section
variable {c:Cfg} {X:Fx} {I fr':AF} {n m:af} {z z₁:Zs} {ko:KO}
variable {i:IS} {P:Prog} {r:ae IS} {y k:aC} {e:IE} {σ U:St} {J:ae et} {p:(aC×IE)×aC×aC}
theorem M1 {t v:bk} {d:IE} {f:Tgt} (j:pU ko t=aa f) (b:D3 d (gZ v) f=aa (.a y e)) (g:fG e=ai):d=e/\gZ v=aD/\∃x px,t=.Name x px:=by
 induction f using Tgt.casesOn with
 |v i=>
  refine d9 (Hu j) λx p k l=>?_;have b:(if(gZ v&&fG d)=ai then ah else aa (IS.a i d))=aa (IS.a y e):=b;by_cases q:(gZ v&&fG d)=ai
  ·rw[aF q]at b;exact bO b
  ·rw[aG q]at b;injection(aw b)with _ h;obtain rfl:=h
   rw[g,sh]at q;exact⟨rfl,kz.mpr q,x,p,k⟩
 |c i=>cases q:gZ v<;>rw[q]at b<;>exact nomatch b
 |p xs=>cases q:gZ v<;>rw[q]at b<;>exact nomatch b
theorem P5 {ast:et} (h:oB m ko ast=aa (.a y e)) (c:fG e=ai):∃x px v pos m',ast=.Assign [.Name x px] v pos/\dW m' ko v=aa e/\gZ v=aD:=by
 refine cV (Ce h) λm' b h f=>?_;refine yx (PK f.symm) λts v pos d=>?_;obtain rfl:=d;exact ob h λt g h=>ob h λk i h=>CZ h (λp b h=>g_ h λb h=>ob h λb b h=>ob h λb b h=>nomatch aw h) λb h=>CZ h (λp b h=>g_ h λb h=>ob h λb b h=>ob h λb b h=>nomatch aw h)
  λb h=>g_ h λb h=>ob h λl j h=>have q:=M1 j h c;q.2.2.elim λx r=>r.elim λpx r=>⟨x,px,v,pos,m',by rw[j_ g,r],q.1▸i,q.2.1⟩
theorem P6 (h:dw P n [.a y e] I σ=.x k U):∃m,m<=n/\fG e=ai/\bg P m I e σ=.x k U:=by
 induction n using gC with
 |zero=>exact nomatch h
 |succ n=>
  induction n using gC with
  |zero=>exact nomatch h
  |succ n=>
   refine aY n (yY (eM n)) ?_;have h:((gc (fG e) (bg P n I e σ)).bindX λv σ=>R.k (Fl.n,({I with v:=bA y v I.v}:AF)) σ).bindX (λx σ=>match x with|(.n,I)=>dw P (n+1) [] I σ|(.r v,I)=>.k (.r v,I) σ)=.x k U:=h;revert h;induction bg P n I e σ using cO with
   |k a c=>cases fG e<;>exactλh=>nomatch h
   |b=>cases fG e<;>exactλh=>nomatch h
   |x q c=>induction fG e using b_ with|false=>exactλh=>nomatch h|true=>exactλh=>⟨rfl,by refine dp (R.x.inj h) λd f=>?_;refine dq d ?_;refine dq f ?_;rfl⟩
theorem Kw {e:bk} (h:OS e=ai):∃a b,e=.Constant .none a b:=by
 induction e using fL with
 |Constant k a b=>cases k<;>first|exact(lg _ _ rfl)|exact nomatch h
 |_=>exact nomatch h
theorem GH {h:ExceptHandler} {p:cI×cI} (q:EH h=aa p):∃a c ap d e f,h=.ExceptHandler (aa (.Name p.1 a)) ah [.Assign [.Name p.2 c] (.Constant .none e f) ap] d:=by obtain⟨t,w,b,d⟩:=h;exact ob q λt i q=>ob q λy j q=>g_ q λk q=>ob q λs l q=>ob q λr m q=>ob q λz g q=>ob q λx n q=>g_ q λo q=>jN q (by refine ck (tK j) λa u=>?_;refine ck (tK n) λc ex=>?_;refine ck (Mo m) λap v=>?_;refine pR (Kw o) λe f en=>?_;exact⟨a,c,ap,d,e,f,by rw[i,u,jc.mp k,j_ l,v,j_ g,ex,en]⟩)
theorem xh.caught {d:ae bh} {base h:dj} {s':aM} (y:X.l=[X.e]) (f:jy c X I z) (t:xh c X.l X.l z d U base s') (g:base.StaysIn h) (B:s'.heap.UpToSlots h):
  Good c [X.e.locals] z ⟨d,U,{s' with heap:=h}⟩/\jy c X I ⟨d,U,{s' with heap:=h}⟩:=by
 have j:=t.sr.grow g;refine ba f.locs λm A C=>?_;have n:=B.ns (t.ns _ (y▸aH) m A);have st:fN [X.e.locals] z.ρ z.s.heap d h:=by
  refine⟨t.pre,λa o r w e=>g _ _ (t.keep a o r (λx p q=>w (aL.mpr (q.trans (aU _ (aL.mp (y▸p)))))) e),λa o D e=>g _ _ (t.fixed a o D e),λa o e=>?_⟩;by_cases r:a∈z.ρ
  ·refine ba t.pre λG E H=>?_;exact(j.mem (show a∈d by rw[E];exact kC _ r)).elim λob q=>⟨ob,q.1⟩
  ·by_cases w:a=X.e.locals
   ·exact w▸(tN n).elim λo q=>⟨o,q.1⟩
   ·exact⟨o,g _ _ (t.keep a o r (λx p q=>w (q.trans (aU _ (aL.mp (y▸p))))) e)⟩
 exact⟨⟨st,j,t.gens,t.drawn,t.os⟩,aY m n (λx v p=>(C x v p).elim λu q=>aY u q.1 (q.2.step st)),λx k g F=>(f.cells x k g F).elim λb q=>aY b q.1 (st.get _ _ q.2),(tN A).elim λo q=>st.new_not q.1 f.lnew⟩
theorem M2 {C e:bh} {s:aM} {b:fK} {A:cQ} {E:aE->aM->Prop} {Q:bD->aM->Prop} (h:c.K.In s.heap) (q:ktsIn c.K C "BaseException"=ai) (d:s.heap.get? e=aa b) (a:b.cls=.ref C) (f:Q ai s):bp c.M A (excMatches (.ref e) (.ref C)) Q E s:=by obtain⟨_,_,_,_,_,_,_,_,_,_,_,_,_,_,_,_,_,g,i,_⟩:=kts_cls h q;exact wpAny_excMatches_sub_self g d a i f
theorem Uv (B:gL c) (Y:sP c) (J:X.l=[X.e]) (T:sA X) {ast:et} {y:aC} {e:IE} {L x:cI} {D W:aC} {cp cq xp ap hp pos:Pos} {cz:af} {k:aC} {U:St}
  (Z:oB m X.k ast=aa (.a y e)) (tc:nm L=aa D) (hc:X.k L=aa .globalImplicit) (tx:nm x=aa W) (hx:X.k x=aa .local) (hv:dw c.P n [.a y e] I z.σ=.x k U) (hg:c.P.g D=aa (.c k)) (hK:∀C,c.ca k=aa C->ktsIn c.K C "BaseException"=ai) (hd:D≠"__debug__") (H:cM c X I n z)
  {Q:Flow->aM->Prop} {E:aE->aM->Prop} (hQ:∀j s',Good c [X.e.locals] z ⟨j,U,s'⟩->jy c X {I with v:=bA W .n I.v} ⟨j,U,s'⟩->Q .next s'):
  bp c.M X.A (exec (.Try [ast] [.ExceptHandler (aa (.Name L cp)) ah [.Assign [.Name x xp] (.Constant .none cz cq) ap] hp] [] [] pos) X.e) Q E z.s:=by
 refine cV (P6 hv) λF hm N O=>?_;refine CT (P5 Z N) λx0 Wf v0 wx m' o te R=>?_;clear Z;refine dq o ?_;have K:=gp (Ea B Y n F hm).e te (H.less hm);rw[O]at K;obtain rfl:=pV tc;refine wpAny_Try_except (gS (pE (tC R) rfl rfl (aA (bS K (λu0 u0 q=>q.elim) λv s' t=>?_))));refine lE t ?_;clear t;intro e base j C o hC S t;refine dq o ?_;obtain⟨a0,hF⟩:=S;rw[J]at hF;refine wpAny_looks_onW (J▸H.ok.frames) T.fr hF λWc hH d=>?_;refine wpAny_landsW hH λh₂ b f=>?_;have i:=t.caught J H.fr b.1 (d.trans f);refine wpAny_handleBy_cons (codeAny_handlers_test ?_) (λq=>nomatch q);rw[xv];refine aA (dz ?_);rw[aG (show¬(aZ D==("__debug__":cI))=ai fromλq=>hd (nD (eq_of_beq q)))];rw[EQ H.ok.kind ((H.ok.kof (aZ D)).trans hc)];refine Hp B hg i.1.sr H.ok λu r=>?_;revert r;refineλr=>r.cls_e λC' V=>?_;obtain rfl:C=C':=aw (hC.symm.trans V);refine ba b.there λoe he G=>?_;refine M2 (B.inH i.1.sr) (hK C hC) he G (codeAny_handlers_suite ?_);refine lands_againW b λWd p w=>?_;have h:=t.caught J H.fr p.1 ((d.trans f).trans w);refine gS (pE (tC rfl) rfl rfl ?_);rw[arm_eval_Constant];refine aA (aW ?_);refine aA ?_;refine mT tx hx H.ok h.1.sr h.2 .none λWe tk g4 f4 u0=>?_;exact aW (nz (hQ _ _ (h.1.trans g4) f4))
noncomputable def nE:ae IS->ae aC
 |[]=>[]
 |i::r=>match i with|.y _ cn _=>cn::nE r|_=>nE r
theorem DQ {x:aC} (h:x∈nE r):x∈nE (i::r):=by induction i using IS.casesOn<;>first|exact aK _ h|exact h
noncomputable def SW:IS->au (aC×IE)
 |.a y e=>aa (y,e)
 |_=>ah
noncomputable def SX:IS->au ((aC×IE)×aC×aC)
 |.y b c x=>(rZ b).bind λi=>(SW i).bind λp=>aa (p,c,x)
 |_=>ah
theorem SY {p:aC×IE} (h:SW i=aa p):i=.a p.1 p.2:=by induction i using IS.casesOn<;>first|exact bO h|exact jN h rfl
theorem Uw (h:SX i=aa p):i=.y [.a p.1.1 p.1.2] p.2.1 p.2.2:=by induction i using IS.casesOn<;>first|exact bO h|exact ob h λi b h=>ob h λq c h=>j_ b▸SY c▸jN h rfl
noncomputable abbrev yG (P:Prog) (n:af) (r:ae IS):R (Fl×AF)->R (Fl×AF)
 |.k (.n,I) σ=>fH P n r I σ
 |.k (.r v,I) σ=>.k (.r v,I) σ
 |_=>.b
theorem Kx (h:SX i=ah):fH P n (i::r) I σ=yG P n r (cS P n i I σ):=by
 induction i using IS.casesOn with
 |y b c x=>
  induction b using aV with
  |nil=>rfl
  |cons i b=>
   induction b using aV with
   |nil=>induction i using IS.casesOn<;>first|rfl|exact nomatch h
   |cons j b=>induction i using IS.casesOn<;>rfl
 |_=>rfl
noncomputable abbrev yH (P:Prog) (c k:aC):bD:=match P.g c with|some (.c a)=>decide (a=k)|_=>aD
noncomputable abbrev M3 (P:Prog) (n:af) (r:ae IS) (c x:aC) (I:AF):R (Fl×AF)->R (Fl×AF)
 |.x k σ=>if yH P c k then fH P n r {I with v:=bA x .n I.v} σ else .b
 |q=>yG P n r q
theorem Ky:fH P n (.y [.a p.1.1 p.1.2] p.2.1 p.2.2::r) I σ=M3 P n r p.2.1 p.2.2 I (dw P n [.a p.1.1 p.1.2] I σ):=by
 show(match dw P n [.a p.1.1 p.1.2] I σ with
  |.k (.n,I) σ=>fH P n r I σ
  |.k (.r v,I) σ=>.k (.r v,I) σ
  |.x d U=>if(match P.g p.2.1 with|some (.c k)=>decide (k=d)|_=>aD)then fH P n r {I with v:=bA p.2.2 .n I.v} U else .b
  |.b=>.b)=_
 cases dw P n [.a p.1.1 p.1.2] I σ with|k x σ=>obtain⟨e,I⟩:=x;cases e<;>rfl|_=>rfl
theorem zb {c:aC} (h:yH P c k=ai):P.g c=aa (.c k):=by
 revert h;unfold yH;cases P.g c with
 |none=>exactλh=>nomatch h
 |some g=>induction g using AV.casesOn with|c a=>exactλh=>aU (λk=>aa (AV.c k)) (bC h)|_=>exactλh=>nomatch h
structure Ux (m:af) (ko:KO) (s:et) (b:ae IS) (cn x':aC) (body:ae et) (cN x:cI) (cp xp ap hp pos:Pos) (cz:af) (cq:Pos):Prop where
 eq:s=.Try body [.ExceptHandler (aa (.Name cN cp)) ah [.Assign [.Name x xp] (.Constant .none cz cq) ap] hp] [] [] pos
 tb:fJ (oB m ko) body=aa b
 tc:nm cN=aa cn
 kc:ko cN=aa .globalImplicit
 tx:nm x=aa x'
 kx:ko x=aa .local
theorem P7 {s:et} {b:ae IS} {t u:aC} (h:oB m ko s=aa (.y b t u)):∃m' body z x c d ap g pos i j,m=m'+1/\Ux m' ko s b t u body z x c d ap g pos i j:=by
 refine cV (Ce h) λm' e h v=>?_;refine G1 (PJ v.symm) λbody K o f pos a=>?_;obtain rfl:=a
 ·refine g_ h λA h=>ob h λhd B h=>ob h λp g h=>g_ h λk h=>ob h λL C h=>ob h λM D h=>ob h λE F w=>nk A λG H=>nk k λI J=>?_;injection(aw w)with a l n;clear h v w;refine dH a ?_;clear h;obtain rfl:=l;clear h;obtain rfl:=n
  refine L_ (GH g) λc d ap q i j r=>?_;exact⟨m',body,_,_,c,d,ap,q,pos,i,j,e,by rw[j_ B,r,fm.mp G,fm.mp H],C,D,eq_of_beq J,F,eq_of_beq I⟩
theorem M4 (h:fJ (oB m ko) J=aa [i]):∃a,J=[a]/\oB m ko a=aa i:=by
 induction J using aV with
 |nil=>exact nomatch aw h
 |cons a r=>refine ob h λi f h=>ob h λis b h=>?_;refine dp (fB (aw h)) λc d=>?_;clear h;refine dH c ?_;obtain rfl:=d;induction r using aV with|nil=>exact aY a rfl f|cons _ _=>exact ob b λe e h=>ob h λe e h=>nomatch aw h
theorem M5 (h:fJ (oB m ko) J=aa (i::r)):∃a b,J=a::b/\oB m ko a=aa i/\fJ (oB m ko) b=aa r:=by
 induction J using aV with
 |nil=>exact nomatch aw h
 |cons a b=>exact ob h λe f h=>ob h λe g h=>by refine dp (fB (aw h)) λc d=>?_;clear h;refine dH c ?_;obtain rfl:=d;exact fD a b rfl f g
theorem P8 (h:fJ (oB m ko) J=aa []):J=[]:=by induction J using aV with|nil=>rfl|cons a c=>exact ob h λb b h=>ob h λb b h=>nomatch aw h
set_option backward.match.sparseCases true in
theorem E_ {k:eR Flow} {d:aE->aM->Prop} {r:R (Fl×AF)} {is:ae IS} {l:ae et} (K:Ev c X ai (jO c X) r k z) (T:sA X) (H:cM c X I n z) (t:∀{z:Zs} {I:AF},cM c X I n z->Ev c X ai (jO c X) (fH c.P n is I z.σ) (execs l X.e) z) (m:∀q σ,r≠.x q σ) (o:yG c.P n is r≠.b):
  bp c.M X.A k (λf s'=>match f with|.next=>bp c.M X.A (execs l X.e) (Qr c X ai (jO c X) z (yG c.P n is r)) (Er c X ai z (yG c.P n is r)) s'|f=>Qr c X ai (jO c X) z (yG c.P n is r) f s') d z.s:=by
 induction r using cO with
 |b=>exact bJ rfl o
 |x q σ=>exact bJ rfl (m q σ)
 |k x i=>obtain⟨w,y⟩:=x;refine bS K (λf p q=>?_) λh h e=>e.elim;refine cV q ?_;clear q;intro a g f1 q;clear K m;induction w using qr with|n=>obtain rfl:f=.next:=q;exact bS ((t (H.stepS T g f1)).to_qe o) (λh h q=>q.elim λx q=>q.elim λU q=>dY x U q.1 (q.2.after g)) λh h q=>q.elim λk q=>q.elim λU q=>dY k U q.1 (q.2.afterS T H.out g)|r v=>refine ba q ?_;clear q;intro u j q;refine dq j ?_;exact⟨_,_,rfl,a,g,f1,u,rfl,q⟩
noncomputable abbrev A7 (c:Cfg) (a:aC):Prop:=a≠"__debug__"/\∀k C,c.P.g a=aa (.c k)->c.ca k=aa C->ktsIn c.K C "BaseException"=ai
theorem S0 (B:gL c) (Y:sP c) (F:X.l=[X.e]) (T:sA X) {is:ae IS} {a:et} {w:ae et} {p:(aC×IE)×aC×aC} (G:oB m X.k a=aa (.y [.a p.1.1 p.1.2] p.2.1 p.2.2)) (H:cM c X I n z) (A:A7 c p.2.1)
  (D:∀{z:Zs} {I:AF},cM c X I n z->Ev c X ai (jO c X) (fH c.P n is I z.σ) (execs w X.e) z):Ev c X ai (jO c X) (M3 c.P n is p.2.1 p.2.2 I (dw c.P n [.a p.1.1 p.1.2] I z.σ)) (execs (a::w) X.e) z:=by
 obtain⟨m',body,J,x,L,M,ap,N,pos,O,Q,_,t⟩:=P7 G;have K:=(Ea B Y n n (bf n)).b X I z m' body _ t.tb T H;rw[t.eq];refine .of_qe λh=>gS ?_;cases j:dw c.P n [.a p.1.1 p.1.2] I z.σ with
 |x k d=>
  rw[j]at h;by_cases o:yH c.P p.2.1 k=ai
  ·rw[show M3 c.P n is p.2.1 p.2.2 I (.x k d)=fH c.P n is {I with v:=bA p.2.2 .n I.v} d from aF o]at h⊢;refine ba (M4 t.tb) λa0 r s=>?_;rw[r];exact Uv B Y F T s t.tc t.kc t.tx t.kx j (zb o) (λC=>A.2 k C (zb o)) A.1 H λu E g f=>bS ((D (H.stepS T g f)).to_qe h) (λi i q=>q.elim λx q=>q.elim λU q=>dY x U q.1 (q.2.after g)) λi i q=>q.elim λk q=>q.elim λU q=>dY k U q.1 (q.2.afterS T H.out g)
  ·exact bJ (aG o) h
 |b=>exact bJ (by rw[j]) h
 |k x d=>rw[j]at K h;refine wpAny_Try_except (bS (E_ K T H D (λi i q=>nomatch q) h) (λf s' q=>?_) λi i e=>e);induction f using Flow.casesOn with|next=>exact nz q|_=>exact q
theorem Uy (B:gL c) (Y:sP c) (u:X.l=[X.e]) (T:sA X) {is:ae IS}:∀{J:ae et},fJ (oB m X.k) J=aa is->(∀f∈nE is,A7 c f)->∀{z:Zs} {I:AF},cM c X I n z->
  Ev c X ai (jO c X) (fH c.P n is I z.σ) (execs J X.e) z:=by
 induction is with
 |nil=>exactλ{J} b _ {z I} H=>P8 b▸Ev.lift (λQ E h=>h) (Ev.next H)
 |cons i r d=>
  intro J b j z I H;refine eV (M5 b) λa y g o v=>?_;clear b;refine dq g ?_;have d:=λ{z I}=>@d _ v (λf w=>j f (DQ w)) z I;cases q:SX i with
  |some p=>obtain rfl:=Uw q;exact Ky▸S0 B Y u T o H (j _ aH) d
  |none=>
   rw[Kx q];have K:=(Ea B Y n n (bf n)).s X I z m a i o T H;refine .of_qe λt=>?_;by_cases hx:∃k σ,cS c.P n i I z.σ=.x k σ
   ·exact bJ (hx.elim λk q=>q.elim λσ q=>by rw[q]) t
   ·exact gS (E_ K T H d (λk σ q=>hx (lg k σ q)) t)
end
end
section
open PySem PySem.W PyProof.Rows
section
variable {w:fb} {c:Cfg} {J ρ':ae bh} {σ σ':St} {h h':dj} {s:aM}
noncomputable def o4 (κ:KeyKind) (vs:ae aE) (as:ae κ.α):Prop:=vs.map κ.keyOf=as.map aa
structure Fb (κ:KeyKind) (val:κ.α->AV):Prop where
 one:κ.OneLt
 vr:∀(c:Cfg) (J:ae bh) (h:dj) (v:aE) (a:κ.α),κ.keyOf v=aa a->VR c J h (val a) v
 back:∀(c:Cfg) (J:ae bh) (h:dj) (v:aE) (a:κ.α),VR c J h (val a) v->κ.keyOf v=aa a
 kind:∀(v₁ v₂:aE) (rest:ae aE) (as:ae κ.α),o4 κ (v₁::v₂::rest) as->keyKind' (v₁::v₂::rest).toArray=pure oneType'
theorem o4.ints:∀{vs:ae aE} {as:ae aq},o4 yC vs as->v5 vs as
 |[],[],_=>.nil
 |v::vs,a::as,h=>by refine dp (fB h) λb c=>?_;cases v with|int n t=>have b:=b;cases b;exact .cons _ t (o4.ints c)|_=>cases b
theorem o4.strs:∀{vs:ae aE} {as:ae (ae af)},o4 qu vs as->StrsAre vs (as.map eO)
 |[],[],_=>.nil
 |v::vs,a::as,h=>by refine dp (fB h) λb c=>?_;cases v with|str x t=>have b:=b;cases b;exact .cons _ t (o4.strs c)|_=>cases b
theorem Fc:Fb yC AV.i where
 one:=DK
 vr c J h v a e:=by cases v with|int n t=>have e:=e;cases e;exact .int _ t|_=>cases e
 back c J h v a r:=r.int_e λf=>rfl
 kind b d rest as h:=keyKind_ints h.ints
theorem Fd:Fb qu AV.s where
 one:=strKind_oneLt
 vr c J h v a e:=by cases v with|str x t=>have e:=e;cases e;exact .str x.cps.toList t|_=>cases e
 back c J h v a r:=r.str_e λf=>rfl
 kind b d rest as h:=keyKind_strs h.strs
variable {C:KeyKind} {I:C.α->AV}
theorem o4.of (K:Fb C I) {as:ae C.α}:∀{vs:ae aE},fq c J h (as.map I) vs->o4 C vs as:=by induction as with|nil=>exactλr=>r.nil_e rfl|cons a as b=>exactλr=>r.cons_e λu us r q=>congr (aU yg (K.back _ _ _ _ _ r)) (b q)
theorem Fe (C:KeyKind):yy C.blt:=⟨λc c h=>KeyOrd.klt_asymm h,λc c c d e=>t9 d e,λa b d e=>C.total a b d e⟩
theorem Kz (K:Fb C I) {vs:ae aE} {as:ae C.α} (d:o4 C vs as) {arr:bZ bx} (f:arr.toList.Perm (vs.zip vs)) (i:gD C arr.toList):fq c J h ((fF C.blt as).map I) (arr.map (·.2)).toList:=by
 have key:∀p∈arr.toList,p.1=p.2/\C.keyOf p.1=aa (kv C p):=λp j=>by refine dp (mem_zip_self (f.mem_iff.mp j)) λb k=>?_;refine⟨b,?_⟩;have:C.keyOf p.1∈vs.map C.keyOf:=iw k;rw[d]at this;refine ba (bT.mp this) λa m e=>?_;unfold kv;rw[<-e];rfl
 have e:arr.toList.map (kv C)=fF C.blt as:=by
  refine CW (Fe C) ?_ (B9 (Fe C) as) ?_
  ·exact l5.mpr i
  ·refine(f.map (kv C)).trans ?_;have:(vs.zip vs).map (kv C)=as:=by
    have b:(vs.zip vs).map (kv C)=(vs.map C.keyOf).map λo=>o.getD C.dflt:=by
     rw[iA]
     conv=>rhs;rw[<-List.map_fst_zip (l₂:=vs) (bf _),iA]
     rfl
    rw[b,d,iA]
    conv=>rhs;rw[<-List.map_id as]
    rfl
   rw[this];exact(yz as).symm
 rw[<-e,Array.toList_map];have:∀l:ae bx,(∀p∈l,p.1=p.2/\C.keyOf p.1=aa (kv C p))->fq c J h ((l.map (kv C)).map I) (l.map (·.2)):=λl=>by induction l with|nil=>exactλm=>.nil|cons p l n=>exactλg=>.cons (by have:=g p aH;show VR c J h (I (kv C p)) p.2;rw[<-this.1];exact K.vr _ _ _ _ _ this.2) (n λq r=>g q (aK _ r))
 exact this _ key
end
section
variable {c:Cfg} {J:ae bh} {h:dj} {z:Zs} {s:aM} {A:cQ} {E:aE->aM->Prop}
theorem Dc {κ:KeyKind} {val:κ.α->AV} (K:Fb κ val) {it:aE} {as:ae κ.α} (X:fz c z) (n:as.length<=sizeLine)
  (d:∀R:ae aE->aM->Prop,(∀h' tk vs,(∀b o,z.s.heap.get? b=aa o->h'.get? b=aa o)->o4 κ vs as->R vs {z.s with heap:=h',toks:=tk})->bp c.M A.in1 (collect it) R E z.s):
  bp c.M A (call (.builtin "sorted") [it]) (ez c (Vz c) z (.l z.σ.length) (z.σ++[.l ((fF κ.blt as).map val)])) E z.s:=by
 refine PF K.one d (λvs f=>dy (λv p=>?_) (λg h rest e=>?_) ?_) λh' tk vs D k arr f j m q r t=>?_
 ·have:κ.keyOf v∈vs.map κ.keyOf:=iw p;rw[show vs.map κ.keyOf=as.map aa from f]at this;refine ba (bT.mp this) λa u e=>?_;exact⟨a,e.symm⟩
 ·exact K.kind g h rest as (e▸f)
 ·have:=aU fu (show vs.map κ.keyOf=as.map aa from f);rw[az,az]at this;exact this▸n
 ·exact aY (z.ρ++[D]) ⟨.fresh j m,X.freshen j m (dY _ _ q (Kz K f r t)),rfl,rfl,rfl⟩ (.loc (vC X _))
theorem zc {l:bh} {us:ae aE} {n:af} {R:ae aE->aM->Prop} {A:cQ} (d:s.heap.get? l=aa (mz us n)) (f:us.length<=sizeLine) (h:∀h' tk,(∀b o,s.heap.get? b=aa o->h'.get? b=aa o)->R us {s with heap:=h',toks:=tk}):
  bp c.M A (collect (.ref l)) R E s:=by
 refine collect_list (As _ d rfl n rfl) (h _ s.toks λb o e=>?_) f;rw[m7 _ _ _ _ (j2 (jn e))];exact bN _ e
theorem zd {K:Type} [oR K] {knd:PySem.KeyKind c.prog c.w K} {d:bh} {a:ae (K×aE)} {l:af} {R:ae aE->aM->Prop} {A:cQ} (m:A.handled=ah) (hd:(d==jo)=aD) (n:s.heap.DictAt knd d a l) (p:a.length<=sizeLine)
  (h:∀h' tk (vs:ae aE),(∀b o,s.heap.get? b=aa o->h'.get? b=aa o)->vs.length=a.length->(∀(j:af) (v:aE),vs[j]?=aa v->∃k x,a[j]?=aa (k,x)/\knd.is k v=ai)->R vs {s with heap:=h',toks:=tk}):
  bp c.M A (collect (.ref d)) R E s:=
 kdu_collect (kdl_dict hd) m n p λh' tk f q i=>h h' tk f.toList q (by rw[cK];exact i.1) λj v e=>i.2 j v (by rw[<-ft];exact e)
variable {H:AV->aq} {I:ae (AV×AV)} {C:ae ew}
theorem P9 {is:ae aq} (q:mO c J h H I C) (h:I.map (·.1)=is.map .i) (l:∀i,H (.i i)=hashInt i):∃d:ae (aq×aE),d.map (·.1)=is/\Pairs (vY c.prog c.w) C d/\∀e∈C,∃k,(vY c.prog c.w).is k e.key=ai/\e.hash=(vY c.prog c.w).hash k:=by
 induction q generalizing is with
 |nil=>refine dq (xB.mp h.symm) ?_;exact dS ([]) rfl .nil (λe m=>bJ m bF)
 |@cons k v e I C a b hh r n=>
  refine eV (xb.mp h.symm) λi A f o p=>?_;clear h;refine dq f ?_;refine cV (n p.symm) λd s u y=>?_;obtain rfl:AV.i i=k:=o;refine ck (a.int_e λt=>⟨t,rfl⟩:∃t,e.key=Value.int i t) λt z=>?_;have j:(vY c.prog c.w).is i e.key=ai:=by rw[z];exact fk i
  refine dS ((i,e.val)::d) (by rw[fj,s]) (.cons j rfl u) (λx g=>?_);rcases bw.mp g with rfl|g
  ·exact aY i j (hh.trans (l i))
  ·exact y x g
theorem P' {is:ae (ae af)} (q:mO c J h H I C) (h:I.map (·.1)=is.map .s) (l:∀i,H (.s i)=hashStr c.w (eO i)):∃d:ae (cI×aE),d.map (·.1)=is.map eO/\Pairs (sj c.prog c.w) C d/\∀e∈C,∃k,(sj c.prog c.w).is k e.key=ai/\e.hash=(sj c.prog c.w).hash k:=by
 induction q generalizing is with
 |nil=>refine dq (xB.mp h.symm) ?_;exact dS ([]) rfl .nil (λe m=>bJ m bF)
 |@cons k v e I C a b hh r n=>
  refine eV (xb.mp h.symm) λi B f o p=>?_;clear h;refine dq f ?_;refine cV (n p.symm) λd u y z=>?_;obtain rfl:AV.s i=k:=o;refine ck (a.str_e λt=>⟨t,rfl⟩:∃t,e.key=Value.str (eO i) t) λt A=>?_;have j:(sj c.prog c.w).is (eO i) e.key=ai:=by rw[A];exact fk (eO i)
  refine dS ((eO i,e.val)::d) (by rw[fj,u];rfl) (.cons j rfl y) (λx g=>?_);rcases bw.mp g with rfl|g
  ·exact aY (eO i) j (hh.trans (l i))
  ·exact z x g
end
end
section
open PySem PySem.W PyProof.Rows
variable {C:ae AV}
theorem A8:∀{is:ae aq},vp C=aa is->C=is.map .i:=by
 induction C with
 |nil=>exactλh=>aw h▸rfl
 |cons a r b=>induction a using AV.casesOn with|i i=>exactλh=>om h λd c=>aU (AV.i i::·) (b c)|_=>exactλh=>bO h
theorem A9:∀{is:ae (ae af)},tI C=aa is->C=is.map .s:=by
 induction C with
 |nil=>exactλh=>aw h▸rfl
 |cons a r b=>induction a using AV.casesOn with|s i=>exactλh=>om h λd c=>aU (AV.s i::·) (b c)|_=>exactλh=>bO h
section
variable {c:Cfg} {z:Zs} {A:cQ} {E:aE->aM->Prop}
noncomputable abbrev S3 (c:Cfg) (A:cQ) (z:Zs) (d:aE) {κ:KeyKind} (as:ae κ.α):Prop:=∀(E:aE->aM->Prop) (R:ae aE->aM->Prop),(∀h' tk vs,(∀b o,z.s.heap.get? b=aa o->h'.get? b=aa o)->o4 κ vs as->R vs {z.s with heap:=h',toks:=tk})->bp c.M A.in1 (collect d) R E z.s
theorem Hv {C:ae AV} {it:aE} {p:bD} (g:p=ai->C.length<=sizeLine) (X:fz c z) (h:C.length<=sizeLine->∀is:ae aq,C=is.map .i->S3 c A z it (κ:=yC) is) (j:C.length<=sizeLine->∀is:ae (ae af),C=is.map .s->S3 c A z it (κ:=qu) is):
  Lf c A (Vz c) (if p then(match jG C with|some ws=>alloc z.σ (.l ws)|none=>.b)else .b) (call (.builtin "sorted") [it]) z:=by
 refine Lf.ite λa=>?_;have a:=g a;unfold jG;cases e:vp C with
 |some is=>exact Dc Fc X (by rw[A8 e,az]at a;exact a) λR d=>h a is (A8 e) _ R d
 |none=>cases f:tI C with|some is=>exact Dc Fd X (by rw[A9 f,az]at a;exact a) λR d=>j a is (A9 f) _ R d|none=>trivial
theorem Hw {κ:KeyKind} {vs:ae aE} {as:ae κ.α} (b:vs.length=as.length) (d:∀(j:af) (u:aE) (a:κ.α),vs[j]?=aa u->as[j]?=aa a->κ.keyOf u=aa a):o4 κ vs as:=by refine oJ λj=>?_;rw[bE,bE];cases e:vs[j]? with|none=>rw[ml (b▸ny.mp e)];rfl|some u=>have f:=(aP.mp e).1;have c:as[j]?=aa (as[j]'(b▸f)):=aR _;rw[c];exact aU aa (d j u _ e c)
theorem M6 (N:∃o,c.h₀.get? jo=aa o) {vs:ae AV} {us:ae aE} (L:A.handled=ah) (X:fz c z) (r:lX c z vs us):Lf c A (Vz c) (builtin "sorted" vs z.σ) (call (.builtin "sorted") us) z:=by
 unfold builtin;rw[aG #[0],aF rfl];induction vs using aV with
 |nil=>trivial
 |cons a vs=>
  induction vs using aV with
  |cons _ _=>cases a<;>trivial
  |nil=>
   induction a using AV.casesOn with
   |l n=>
    refine r.cons_e λu us a r=>r.nil_e (a.loc_e λa D=>?_);show Lf c A (Vz c) (Ex z.σ z.σ[n]?) _ z;refine SR.loc_e X D λo ob=>?_;induction o using AO.casesOn with
    |l C=>refine d9 ob ?_;clear ob;intro us k F i;exact Hv jh X (λm is q E R p=>zc F (i.length▸m) λh' tk s=>p h' tk us s (o4.of Fc (q▸i))) λm is q E R p=>zc F (i.length▸m) λh' tk s=>p h' tk us s (o4.of Fd (q▸i))
    |d Q=>
     refine eV ob ?_;clear ob;intro ds k F i H;have b:(a==jo)=aD:=fW.mpr λq=>N.elim λo O=>gF (X.fresh a (bG D)) (q▸O);refine Hv (λh=>by rw[az];exact jh h) X (λm is v E R p=>?_) λm is v E R p=>?_
     ·refine cV (P9 i v λP=>rfl) λe g1 g2 g3=>?_;have s:e.length=is.length:=by rw[<-g1,az]
      have w:(e.map (·.1)).Nodup:=by rw[g1];rw[v]at H;exact(l5.mp H).imp λb q=>b (aU _ q)
      refine zd L b ⟨_,_,F,dy rfl rfl rfl,rfl,λx I=>g3 x (by simpa using I),by simpa using g2,w⟩ (by rw[v,az]at m;omega) λh' tk vs y f J=>p h' tk vs y (Hw (f.trans s) λj u a G D=>?_);refine d9 (J j u G) λq x K g=>?_;have:is[j]?=aa q:=by rw[<-g1,bE,K];rfl
      refine dH (aw (this.symm.trans D)) ?_;refine ck (Value.isInt_shape g) λt B=>?_;clear g G;obtain rfl:=B;rfl
     ·refine cV (P' i v λP=>rfl) λe g1 g2 g3=>?_;have s:e.length=is.length:=by have:=aU fu g1;rwa [az,az]at this
      have w:(e.map (·.1)).Nodup:=by rw[g1];rw[v]at H;exact l5.mpr ((l5.mp H).imp λb q=>b (by rw[Hh q]))
      refine zd L b ⟨_,_,F,dy rfl rfl rfl,rfl,λx I=>g3 x (by simpa using I),by simpa using g2,w⟩ (by rw[v,az]at m;omega) λh' tk vs y f J=>p h' tk vs y (Hw (f.trans s) λj u a G D=>?_);refine d9 (J j u G) λq x K g=>?_;have M:(is.map eO)[j]?=aa q:=by rw[<-g1,bE,K];rfl
      rw[bE,D]at M;obtain rfl:=aw M;refine ck (Value.isStrOf_shape g) λt B=>?_;clear g G;obtain rfl:=B;rfl
    |_=>trivial
   |_=>trivial
end
end
section
open PySem
noncomputable abbrev lI (n:aq):IE:=.l (.i n)
noncomputable abbrev lS (s:ae af):IE:=.l (.s s)
noncomputable abbrev dm (e:IE):IE:=.f (.g "len") [e]
noncomputable abbrev eU (n:aq):IE:=.u (.v "row") (.l (.i n))
noncomputable def sE:FD:=⟨["self"],[],[],[.o (.v "self") "rows" (.s []),
 .o (.v "self") "index" (.d [] []),
 .o (.v "self") "decls" (.s [.l (.n)]),
 .o (.v "self") "bounds" (.s []),
 .o (.v "self") "defaults" (.s []),
 .o (.v "self") "names" (.s []),
 .o (.v "self") "origins" (.d [] []),
 .o (.v "self") "renamed" (.d [] []),
 .o (.v "self") "shaping" (lI 0),
 .f (.v "row") (.g "FIRST_ROWS") [.e (.h (.v "self") "put" [.v "row"])]]⟩
noncomputable def fd_TypeTable_row:FD:=⟨["self","t"],[],[],[.r (.u (.a (.v "self") "rows") (.v "t"))]⟩
noncomputable def fd_TypeTable_put:FD:=⟨["self","row"],[],[],[.i (.m (.v "row") .In (.a (.v "self") "index")) [.r (.u (.a (.v "self") "index") (.v "row"))] [],
 .a "t" (dm (.a (.v "self") "rows")),
 .e (.h (.a (.v "self") "rows") "append" [.v "row"]),
 .s (.a (.v "self") "index") (.v "row") (.v "t"),
 .r (.v "t")]⟩
noncomputable def fd_kind_of:FD:=⟨["tab","t"],[],[],[.r (.u (.u (.a (.v "tab") "rows") (.v "t")) (lI 0))]⟩
noncomputable def fd_str_type:FD:=⟨["tab","text","fresh"],[.i 0],[],[.r (.h (.v "tab") "put" [.p [.g "Y_STR",.v "text",.v "fresh"]])]⟩
noncomputable def fd_num_type:FD:=⟨["tab","n","fresh"],[.i 0],[],[.r (.h (.v "tab") "put" [.p [.g "Y_NUM",.v "n",.v "fresh"]])]⟩
noncomputable def vK:FD:=⟨["tab","did","name","value","fresh"],[.i 0],[],[.r (.h (.v "tab") "put" [.p [.g "Y_ENUM",.v "did",.v "name",.v "value",.v "fresh"]])]⟩
noncomputable def xS:FD:=⟨["tab","name","bound","default"],[.i (-1),.i (-1)],[],[.a "pid" (dm (.a (.v "tab") "bounds")),
 .e (.h (.a (.v "tab") "bounds") "append" [.v "bound"]),
 .e (.h (.a (.v "tab") "defaults") "append" [.v "default"]),
 .e (.h (.a (.v "tab") "names") "append" [.v "name"]),
 .r (.h (.v "tab") "put" [.p [.g "Y_PARAM",.v "pid"]])]⟩
noncomputable def fd_parts_of:FD:=⟨["tab","t"],[],[],[.i (.m (.v "t") .Eq (.g "NEVER")) [.r (.p [])] [],
 .a "row" (.u (.a (.v "tab") "rows") (.v "t")),
 .i (.m (eU 0) .Eq (.g "Y_UNION")) [.r (eU 1)] [],
 .r (.p [.v "t"])]⟩
noncomputable def fd_whole_of_row:FD:=⟨["row"],[],[],[.a "kind" (eU 0),
 .i (.o .Or [.m (.v "kind") .Eq (.g "Y_STR"),.m (.v "kind") .Eq (.g "Y_TPL")]) [.r (.g "STRING")] [],
 .i (.m (.v "kind") .Eq (.g "Y_NUM")) [.r (.g "NUMBER")] [],
 .i (.m (.v "kind") .Eq (.g "Y_ENUM")) [.r (.i (.f (.g "isinstance") [eU 3,.g "str"]) (.g "STRING") (.g "NUMBER"))] [],
 .r (.n (lI 1))]⟩
noncomputable def fd_regular_twin:FD:=⟨["tab","t"],[],[],[.a "row" (.u (.a (.v "tab") "rows") (.v "t")),
 .i (.o .And [.m (eU 0) .In (.g "MARKED_ROWS"),.m (.u (.v "row") (.n (lI 1))) .Eq (lI 1)]) [.r (.h (.a (.v "tab") "index") "get" [.b .Add (.e (.v "row") ah (aa (.n (lI 1)))) (.p [lI 0]),.n (lI 1)])] [],
 .r (.n (lI 1))]⟩
noncomputable def fd_join_bools:FD:=⟨["got"],[],[],[.i (.o .And [.o .Or [.m (.g "FALSE_T") .In (.v "got"),.m (.g "FRESH_F") .In (.v "got")],.o .Or [.m (.g "TRUE_T") .In (.v "got"),.m (.g "FRESH_T") .In (.v "got")]]) [.s (.v "got") (.g "FALSE_T") (lI 1),
 .s (.v "got") (.g "TRUE_T") (lI 1)] []]⟩
noncomputable def fd_stays_beside:FD:=⟨["tab","got","t"],[],[],[.i (.m (.f (.g "regular_twin") [.v "tab",.v "t"]) .In (.v "got")) [.r (.l (.b aD))] [],
 .r (.m (.f (.g "whole_of_row") [.u (.a (.v "tab") "rows") (.v "t")]) .NotIn (.v "got"))]⟩
noncomputable def fd_top_of:FD:=⟨["got"],[],[],[.f (.v "t") (.p [.g "ANY",.g "ERR",.g "UNKNOWN"]) [.i (.m (.v "t") .In (.v "got")) [.r (.v "t")] []],
 .r (.n (lI 1))]⟩
noncomputable def fd_union:FD:=⟨["tab","parts"],[],["tab","got"],[.c "got" (.d [] []),
 .f (.v "t") (.v "parts") [.f (.v "part") (.f (.g "parts_of") [.c "tab",.v "t"]) [.s (.c "got") (.v "part") (lI 1)]],
 .a "top" (.f (.g "top_of") [.c "got"]),
 .i (.m (.v "top") .GtE (lI 0)) [.r (.v "top")] [],
 .e (.f (.g "join_bools") [.c "got"]),
 .a "kept" (.k (.v "t") "t" (.f (.g "sorted") [.c "got"]) (aa (.f (.g "stays_beside") [.c "tab",.c "got",.v "t"]))),
 .i (.t (.v "kept")) [.r (.g "NEVER")] [],
 .i (.m (dm (.v "kept")) .Eq (lI 1)) [.r (.u (.v "kept") (lI 0))] [],
 .i (.m (dm (.v "kept")) .Gt (.g "MAX_UNION")) [.x (.f (.g "TooDeep") [lI 2590])] [],
 .r (.h (.c "tab") "put" [.p [.g "Y_UNION",.f (.g "tuple") [.v "kept"]]])]⟩
noncomputable def fd_is_open:FD:=⟨["tab","t"],[],[],[.a "row" (.u (.a (.v "tab") "rows") (.v "t")),
 .i (.m (eU 0) .In (.g "OPEN_KINDS")) [.r (.l (.b ai))] [],
 .i (.o .Or [.m (eU 0) .Eq (.g "Y_UNION"),.m (eU 0) .Eq (.g "Y_INTER")]) [.f (.v "part") (eU 1) [.i (.f (.g "is_open") [.v "tab",.v "part"]) [.r (.l (.b ai))] []]] [],
 .i (.m (eU 0) .Eq (.g "Y_TUPLE")) [.f (.v "elem") (eU 1) [.i (.m (.u (.v "elem") (lI 1)) .Eq (.g "E_SPREAD")) [.r (.l (.b ai))] []]] [],
 .r (.l (.b aD))]⟩
noncomputable def fd_unit_word:FD:=⟨["tab","t"],[],[],[.a "row" (.u (.a (.v "tab") "rows") (.v "t")),
 .i (.m (eU 0) .Eq (.g "Y_STR")) [.r (eU 1)] [],
 .i (.m (eU 0) .Eq (.g "Y_NUM")) [.r (.f (.g "str") [eU 1])] [],
 .i (.m (eU 0) .Eq (.g "Y_ENUM")) [.r (.f (.g "str") [eU 3])] [],
 .i (.m (eU 0) .Eq (.g "Y_BOOL")) [.r (.i (.m (eU 1) .Eq (lI 1)) (lS [116,114,117,101]) (lS [102,97,108,115,101]))] [],
 .i (.m (.v "t") .Eq (.g "NULLT")) [.r (lS [110,117,108,108])] [],
 .i (.m (.v "t") .Eq (.g "UNDEF")) [.r (lS [117,110,100,101,102,105,110,101,100])] [],
 .r (.l (.n))]⟩
noncomputable def fd_digits_back:FD:=⟨["text"],[],[],[.a "body" (.i (.m (.e (.v "text") ah (aa (lI 1))) .Eq (lS [45])) (.e (.v "text") (aa (lI 1)) ah) (.v "text")),
 .i (.o .Or [.m (.v "body") .Eq (lS []),.m (dm (.v "body")) .Gt (lI 16)]) [.r (.l (.b aD))] [],
 .f (.v "letter") (.v "body") [.i (.o .Or [.m (.v "letter") .Lt (lS [48]),.m (.v "letter") .Gt (lS [57])]) [.r (.l (.b aD))] []],
 .a "n" (.f (.g "int") [.v "body"]),
 .i (.o .Or [.m (.v "n") .Gt (.g "TOP_NUMBER"),.m (.f (.g "str") [.v "n"]) .NotEq (.v "body")]) [.r (.l (.b aD))] [],
 .r (.o .Or [.m (.v "n") .Gt (lI 0),.m (.v "body") .Eq (.v "text")])]⟩
noncomputable def fd_glue:FD:=⟨["left","right"],[],[],[.r (.b .Add (.b .Add (.e (.v "left") ah (aa (.n (lI 1)))) (.p [.b .Add (.u (.v "left") (.n (lI 1))) (.u (.v "right") (lI 0))])) (.e (.v "right") (aa (lI 1)) ah))]⟩
noncomputable def fd_hole_pieces:FD:=⟨["host","t"],[],[],[.a "tab" (.a (.v "host") "tab"),
 .a "pieces" (.s []),
 .f (.v "part") (.f (.g "parts_of") [.v "tab",.v "t"]) [.a "word" (.f (.g "unit_word") [.v "tab",.v "part"]),
 .a "row" (.u (.a (.v "tab") "rows") (.v "part")),
 .i (.m (.v "word") .IsNot (.l (.n))) [.e (.h (.v "pieces") "append" [.p [.p [.v "word"],.p []]])] [.i (.m (eU 0) .Eq (.g "Y_TPL")) [.e (.h (.v "pieces") "append" [.p [eU 1,eU 2]])] [.i (.o .Or [.m (.v "part") .In (.p [.g "STRING",.g "NUMBER",.g "ANY"]),.f (.g "is_open") [.v "tab",.v "part"]]) [.e (.h (.v "pieces") "append" [.p [.p [lS [],lS []],.p [.v "part"]]])] [.e (.h (.v "pieces") "append" [.p [.p [lS [],lS []],.p [.g "STRING"]]])]]]],
 .r (.v "pieces")]⟩
noncomputable def fd_cross_holes:FD:=⟨["host","texts","types"],[],[],[.a "joined" (.s [.p [.p [.u (.v "texts") (lI 0)],.p []]]),
 .f (.v "place") (.f (.g "range") [dm (.v "types")]) [.a "pieces" (.f (.g "hole_pieces") [.v "host",.h (.v "host") "force" [.u (.v "types") (.v "place")]]),
 .i (.m (.b .Mult (dm (.v "joined")) (dm (.v "pieces"))) .Gt (.g "MOST_CROSSED")) [.x (.f (.g "TooDeep") [lI 2590])] [],
 .a "after" (.p [.u (.v "texts") (.b .Add (.v "place") (lI 1))]),
 .a "more" (.s []),
 .f (.v "old") (.v "joined") [.f (.v "piece") (.v "pieces") [.e (.h (.v "more") "append" [.p [.f (.g "glue") [.f (.g "glue") [.u (.v "old") (lI 0),.u (.v "piece") (lI 0)],.v "after"],.b .Add (.u (.v "old") (lI 1)) (.u (.v "piece") (lI 1))]])]],
 .a "joined" (.v "more")],
 .r (.v "joined")]⟩
noncomputable def fd_one_template:FD:=⟨["tab","texts","types"],[],[],[.i (.m (.v "types") .Eq (.p [])) [.r (.f (.g "str_type") [.v "tab",.u (.v "texts") (lI 0)])] [],
 .a "plain" (.l (.b ai)),
 .f (.v "text") (.v "texts") [.a "plain" (.o .And [.v "plain",.m (.v "text") .Eq (lS [])])],
 .f (.v "t") (.v "types") [.a "plain" (.o .And [.v "plain",.m (.v "t") .Eq (.g "STRING")])],
 .i (.v "plain") [.r (.g "STRING")] [],
 .r (.h (.v "tab") "put" [.p [.g "Y_TPL",.v "texts",.v "types"]])]⟩
noncomputable def fd_tpl_kind:FD:=⟨["host","texts","types"],[],[],[.a "tab" (.a (.v "host") "tab"),
 .a "made" (.s []),
 .f (.v "joining") (.f (.g "cross_holes") [.v "host",.f (.g "tuple") [.v "texts"],.f (.g "tuple") [.v "types"]]) [.e (.h (.v "made") "append" [.f (.g "one_template") [.v "tab",.u (.v "joining") (lI 0),.u (.v "joining") (lI 1)]])],
 .r (.f (.g "union") [.v "tab",.v "made"])]⟩
noncomputable def fd_cut_holes:FD:=⟨["text","texts"],[],[],[.a "last" (.b .Sub (dm (.v "texts")) (lI 1)),
 .a "first_end" (dm (.u (.v "texts") (lI 0))),
 .a "stop" (.b .Sub (dm (.v "text")) (dm (.u (.v "texts") (.v "last")))),
 .i (.o .Or [.m (.v "stop") .Lt (.v "first_end"),.m (.e (.v "text") ah (aa (.v "first_end"))) .NotEq (.u (.v "texts") (lI 0)),.m (.e (.v "text") (aa (.v "stop")) ah) .NotEq (.u (.v "texts") (.v "last"))]) [.r (.l (.n))] [],
 .a "taken" (.s []),
 .a "at" (.v "first_end"),
 .f (.v "place") (.f (.g "range") [lI 1,.v "last"]) [.a "mark" (.u (.v "texts") (.v "place")),
 .i (.m (.v "mark") .Eq (lS [])) [.i (.m (.v "at") .GtE (.v "stop")) [.r (.l (.n))] [],
 .a "hit" (.b .Add (.v "at") (lI 1))] [.a "hit" (.h (.v "text") "find" [.v "mark",.v "at",.v "stop"]),
 .i (.m (.v "hit") .Lt (lI 0)) [.r (.l (.n))] []],
 .e (.h (.v "taken") "append" [.e (.v "text") (aa (.v "at")) (aa (.v "hit"))]),
 .a "at" (.b .Add (.v "hit") (dm (.v "mark")))],
 .e (.h (.v "taken") "append" [.e (.v "text") (aa (.v "at")) (aa (.v "stop"))]),
 .r (.v "taken")]⟩
noncomputable def fd_tpl_match:FD:=⟨["host","text","texts","types"],[],[],[.i (.m (dm (.v "types")) .Eq (lI 0)) [.r (.i (.m (.v "text") .Eq (.u (.v "texts") (lI 0))) (.s []) (.l (.n)))] [],
 .a "taken" (.f (.g "cut_holes") [.v "text",.v "texts"]),
 .i (.m (.v "taken") .Is (.l (.n))) [.r (.l (.n))] [],
 .f (.v "place") (.f (.g "range") [dm (.v "types")]) [.i (.o .And [.m (.u (.v "types") (.v "place")) .Eq (.g "NUMBER"),.t (.f (.g "digits_back") [.u (.v "taken") (.v "place")])]) [.r (.l (.n))] []],
 .r (.v "taken")]⟩
noncomputable def xT:FD:=⟨["self","tab"],[],[],[.o (.v "self") "tab" (.v "tab"),
 .o (.v "self") "deep" (lI 0),
 .o (.v "self") "most_rounds" (.g "MOST_ROUNDS")]⟩
noncomputable def fd_Thin_force:FD:=⟨["self","t"],[],[],[.r (.v "t")]⟩
noncomputable def fd_law_texts:FD:=⟨[],[],[],[.r (.s [lS [],lS [97],lS [98],lS [97,98],lS [49],lS [45],lS [98,97]])]⟩
noncomputable def fd_law_bits:FD:=⟨[],[],[],[.r (.s [lS [],lS [97],lS [98],lS [97,98],lS [49],lS [45],lS [48],lS [45,55],lS [57,48,48,55,49,57,57,50,53,52,55,52,48,57,57,49],lS [57,48,48,55,49,57,57,50,53,52,55,52,48,57,57,50],lS [45,48],lS [48,55]])]⟩
noncomputable def xU:FD:=⟨["tab"],[],[],[.a "par" (.f (.g "new_param") [.v "tab",lS [84]]),
 .r (.s [.p [.f (.g "str_type") [.v "tab",lS [97],lI 1],.s [lS [97]],lS [115]],.p [.f (.g "str_type") [.v "tab",lS [],lI 0],.s [lS []],lS [115]],.p [.f (.g "str_type") [.v "tab",lS [98,49],lI 0],.s [lS [98,49]],lS [115]],.p [.f (.g "num_type") [.v "tab",lI 0,lI 0],.s [lS [48]],lS [110]],.p [.f (.g "num_type") [.v "tab",.n (lI 7),lI 1],.s [lS [45,55]],lS [110]],.p [.g "TRUE_T",.s [lS [116,114,117,101]],lS []],.p [.g "BOOLEAN",.s [lS [102,97,108,115,101],lS [116,114,117,101]],lS []],.p [.g "NULLT",.s [lS [110,117,108,108]],lS []],.p [.g "UNDEF",.s [lS [117,110,100,101,102,105,110,101,100]],lS []],.p [.f (.g "member_type") [.v "tab",lI 1,lS [65],lI 3,lI 0],.s [lS [51]],lS [110]],.p [.f (.g "member_type") [.v "tab",lI 1,lS [66],lS [120],lI 1],.s [lS [120]],lS [115]],.p [.g "STRING",.s [lS [83]],lS [83]],.p [.g "NUMBER",.s [lS [78]],lS [78]],.p [.g "ANY",.s [lS [65]],lS [65]],.p [.v "par",.s [lS [80]],lS []],.p [.h (.v "tab") "put" [.p [.g "Y_KEYOF",.v "par"]],.s [lS [75]],lS []],.p [.h (.v "tab") "put" [.p [.g "Y_TPL",.p [lS [97],lS [98]],.p [.g "STRING"]]],.s [lS [97,83,98]],lS [115]],.p [.h (.v "tab") "put" [.p [.g "Y_TPL",.p [lS [],lS [],lS []],.p [.g "NUMBER",.v "par"]]],.s [lS [78,80]],lS [115]],.p [.g "NEVER",.s [],lS []]])]⟩
noncomputable def fd_law_hole:FD:=⟨["tab","take","stock"],[],["take","stock"],[.a "drawn" (.k (.u (.c "stock") (.f (.c "take") [lI 19])) "k" (.f (.g "range") [.b .Add (lI 1) (.f (.c "take") [lI 2])]) ah),
 .a "t" (.f (.g "union") [.v "tab",.k (.u (.v "one") (lI 0)) "one" (.v "drawn") ah]),
 .a "sorts" (.k (.u (.v "one") (lI 2)) "one" (.v "drawn") ah),
 .i (.m (lS [65]) .In (.v "sorts")) [.r (.p [.v "t",.s [lS [65]]])] [],
 .a "words" (.d [] []),
 .f (.v "one") (.v "drawn") [.i (.o .And [.t (.o .And [.m (.u (.v "one") (lI 2)) .Eq (lS [115]),.m (lS [83]) .In (.v "sorts")]),.t (.o .And [.m (.u (.v "one") (lI 2)) .Eq (lS [110]),.m (lS [78]) .In (.v "sorts")])]) [.f (.v "word") (.u (.v "one") (lI 1)) [.s (.v "words") (.v "word") (lI 1)]] []],
 .r (.p [.v "t",.f (.g "sorted") [.v "words"]])]⟩
noncomputable def fd_law_words:FD:=⟨["texts","holes"],[],["texts","holes","k"],[.a "words" (.s [.u (.c "texts") (lI 0)]),
 .f (.c "k") (.f (.g "range") [dm (.c "holes")]) [.i (.m (.b .Mult (dm (.v "words")) (dm (.u (.c "holes") (.c "k")))) .Gt (lI 200)) [.r (.l (.n))] [],
 .a "words" (.q (.b .Add (.b .Add (.v "word") (.v "one")) (.u (.c "texts") (.b .Add (.c "k") (lI 1)))) "word" (.v "words") "one" (.u (.c "holes") (.c "k")))],
 .f (.v "word") (.v "words") [.i (.o .And [.m (.v "word") .NotEq (lS []),.m (.v "word") .Eq (.b .Mult (lS [83]) (dm (.v "word")))]) [.r (.s [lS [83]])] []],
 .r (.f (.g "sorted") [.j (.v "word") (lI 1) "word" (.v "words")])]⟩
noncomputable def fd_law_read:FD:=⟨["tab","t","signs"],[],[],[.a "out" (.s []),
 .f (.v "part") (.f (.g "parts_of") [.v "tab",.v "t"]) [.a "row" (.h (.v "tab") "row" [.v "part"]),
 .i (.m (eU 0) .Eq (.g "Y_STR")) [.e (.h (.v "out") "append" [.b .Add (eU 1) (.b .Mult (lS [33]) (eU 2))])] [.i (.o .And [.m (eU 0) .Eq (.g "Y_TPL"),.m (dm (eU 1)) .Eq (.b .Add (dm (eU 2)) (lI 1))]) [.a "word" (.u (eU 1) (lI 0)),
 .f (.v "k") (.f (.g "range") [dm (eU 2)]) [.g "word" .Add (.b .Add (.h (.v "signs") "get" [.u (eU 2) (.v "k"),lS [63]]) (.u (eU 1) (.b .Add (.v "k") (lI 1))))],
 .e (.h (.v "out") "append" [.v "word"])] [.e (.h (.v "out") "append" [.h (.v "signs") "get" [.v "part",lS [63]]])]]],
 .r (.f (.g "sorted") [.v "out"])]⟩
noncomputable def fd_law_number:FD:=⟨["word"],[],[],[.a "body" (.i (.m (.e (.v "word") ah (aa (lI 1))) .Eq (lS [45])) (.e (.v "word") (aa (lI 1)) ah) (.v "word")),
 .i (.m (.v "word") .Eq (lS [48])) [.r (.l (.b ai))] [],
 .i (.o .Or [.m (.v "body") .Eq (lS []),.m (.u (.v "body") (lI 0)) .NotIn (lS [49,50,51,52,53,54,55,56,57])]) [.r (.l (.b aD))] [],
 .f (.v "letter") (.v "body") [.i (.m (.v "letter") .NotIn (lS [48,49,50,51,52,53,54,55,56,57])) [.r (.l (.b aD))] []],
 .r (.o .Or [.m (dm (.v "body")) .Lt (lI 16),.o .And [.m (dm (.v "body")) .Eq (lI 16),.m (.v "body") .LtE (lS [57,48,48,55,49,57,57,50,53,52,55,52,48,57,57,49])]])]⟩
noncomputable def fd_law_cut:FD:=⟨["word","texts","place"],[],[],[.a "head" (.u (.v "texts") (.v "place")),
 .i (.m (.e (.v "word") ah (aa (dm (.v "head")))) .NotEq (.v "head")) [.r (.l (.n))] [],
 .a "rest" (.e (.v "word") (aa (dm (.v "head"))) ah),
 .a "holes" (.b .Sub (.b .Sub (dm (.v "texts")) (lI 1)) (.v "place")),
 .i (.m (.v "holes") .Eq (lI 0)) [.r (.i (.m (.v "rest") .Eq (lS [])) (.s []) (.l (.n)))] [],
 .a "sizes" (.f (.g "range") [.b .Add (dm (.v "rest")) (lI 1)]),
 .i (.m (.v "holes") .Eq (lI 1)) [.a "sizes" (.s [.b .Sub (dm (.v "rest")) (dm (.u (.v "texts") (.b .Add (.v "place") (lI 1))))])] [.i (.m (.u (.v "texts") (.b .Add (.v "place") (lI 1))) .Eq (lS [])) [.a "sizes" (.s [lI 1])] []],
 .f (.v "size") (.v "sizes") [.i (.M (lI 0) .LtE (.v "size") .LtE (dm (.v "rest"))) [.a "tail" (.f (.g "_law_cut") [.e (.v "rest") (aa (.v "size")) ah,.v "texts",.b .Add (.v "place") (lI 1)]),
 .i (.m (.v "tail") .IsNot (.l (.n))) [.r (.b .Add (.s [.e (.v "rest") ah (aa (.v "size"))]) (.v "tail"))] []] []],
 .r (.l (.n))]⟩
noncomputable def fd_law_want:FD:=⟨["word","texts","types"],[],[],[.a "cut" (.f (.g "_law_cut") [.v "word",.v "texts",lI 0]),
 .i (.m (.v "cut") .Is (.l (.n))) [.r (.l (.n))] [],
 .f (.v "k") (.f (.g "range") [dm (.v "types")]) [.i (.o .And [.m (.u (.v "types") (.v "k")) .Eq (.g "NUMBER"),.t (.f (.g "_law_number") [.u (.v "cut") (.v "k")])]) [.r (.l (.n))] []],
 .r (.v "cut")]⟩
noncomputable def fd_law_fill:FD:=⟨["texts","take"],[],[],[.a "out" (.u (.v "texts") (lI 0)),
 .f (.v "k") (.f (.g "range") [lI 1,dm (.v "texts")]) [.g "out" .Add (.b .Add (.u (.f (.g "_law_bits") []) (.f (.v "take") [lI 12])) (.u (.v "texts") (.v "k")))],
 .a "way" (.f (.v "take") [lI 5]),
 .i (.m (.v "way") .Eq (lI 0)) [.r (.e (.v "out") ah (aa (.n (lI 1))))] [],
 .i (.m (.v "way") .Eq (lI 1)) [.r (.b .Add (.v "out") (.u (.f (.g "_law_bits") []) (.f (.v "take") [lI 12])))] [],
 .i (.m (.v "way") .Eq (lI 2)) [.r (.e (.v "out") (aa (lI 1)) ah)] [],
 .r (.v "out")]⟩
noncomputable def fd_take:FD:=⟨["k"],[],[],[.a "n" (.b .Add (.u (.c "nums") (.b .Mod (.u (.c "at") (lI 0)) (dm (.c "nums")))) (.b .Mult (lI 31) (.b .FloorDiv (.u (.c "at") (lI 0)) (dm (.c "nums"))))),
 .u (.c "at") (lI 0) .Add (lI 1),
 .r (.b .Mod (.v "n") (.v "k"))]⟩
noncomputable def pX:FD:=⟨["script"],[],["tab","at","nums"],[.c "tab" (.f (.g "TypeTable") []),
 .a "host" (.f (.g "Thin") [.c "tab"]),
 .a "stock" (.f (.g "_law_stock") [.c "tab"]),
 .a "signs" (.d [.g "STRING",.g "NUMBER",.g "ANY",.u (.u (.v "stock") (lI 14)) (lI 0),.u (.u (.v "stock") (lI 15)) (lI 0)] [lS [83],lS [78],lS [65],lS [80],lS [75]]),
 .a "texts" (.s [.u (.f (.g "_law_texts") []) (.f (.v "take") [lI 7])]),
 .a "types" (.s []),
 .a "holes" (.s []),
 .i (.m (.f (.v "take") [lI 8]) .Eq (lI 5)) [.a "sizes" (.u (.s [.p [lI 3,lI 67],.p [lI 67,lI 3],.p [lI 6,lI 6,lI 6],.p [lI 2,lI 101]]) (.f (.v "take") [lI 4])),
 .i (.m (dm (.c "nums")) .GtE (lI 14)) [.a "sizes" (.u (.s [.p [lI 20,lI 10],.p [lI 10,lI 20],.p [lI 3,lI 67],.p [lI 201]]) (.f (.v "take") [lI 4]))] [],
 .f (.v "size") (.v "sizes") [.e (.h (.v "types") "append" [.f (.g "union") [.c "tab",.k (.f (.g "num_type") [.c "tab",.v "n"]) "n" (.f (.g "range") [.v "size"]) ah]]),
 .e (.h (.v "holes") "append" [.k (.f (.g "str") [.v "n"]) "n" (.f (.g "range") [.v "size"]) ah]),
 .e (.h (.v "texts") "append" [.u (.f (.g "_law_texts") []) (.f (.v "take") [lI 7])])]] [.f (.v "k") (.f (.g "range") [.f (.v "take") [lI 4]]) [.t ["t","words"] (.f (.g "_law_hole") [.c "tab",.v "take",.v "stock"]),
 .e (.h (.v "types") "append" [.v "t"]),
 .e (.h (.v "holes") "append" [.v "words"]),
 .e (.h (.v "texts") "append" [.u (.f (.g "_law_texts") []) (.f (.v "take") [lI 7])])]],
 .a "want" (.f (.g "_law_words") [.v "texts",.v "holes"]),
 .a "got" (.l (.n)),
 .y [.a "got" (.f (.g "tpl_kind") [.v "host",.v "texts",.v "types"])] "TooDeep" "got",
 .i (.m (.m (.v "got") .Is (.l (.n))) .NotEq (.m (.v "want") .Is (.l (.n)))) [.r (.l (.b aD))] [],
 .a "asks" (.s [.p [.v "texts",.v "types"]]),
 .i (.m (.v "got") .IsNot (.l (.n))) [.i (.m (.f (.g "_law_read") [.c "tab",.v "got",.v "signs"]) .NotEq (.v "want")) [.r (.l (.b aD))] [],
 .f (.v "part") (.f (.g "parts_of") [.c "tab",.v "got"]) [.i (.m (.f (.g "kind_of") [.c "tab",.v "part"]) .Eq (.g "Y_TPL")) [.e (.h (.v "asks") "append" [.p [.u (.h (.c "tab") "row" [.v "part"]) (lI 1),.u (.h (.c "tab") "row" [.v "part"]) (lI 2)]])] []]] [],
 .f (.p ["some","kinds"]) (.e (.v "asks") ah (aa (lI 4))) [.a "word" (.f (.g "_law_fill") [.v "some",.v "take"]),
 .i (.m (.f (.g "tpl_match") [.v "host",.v "word",.v "some",.v "kinds"]) .NotEq (.f (.g "_law_want") [.v "word",.v "some",.v "kinds"])) [.r (.l (.b aD))] []],
 .r (.l (.b ai))]⟩
noncomputable def O8:ae (aC×AV):=[("TooDeep",.c "TooDeep"),
 ("Y_BOOL",.i 2),
 ("Y_STR",.i 3),
 ("Y_NUM",.i 4),
 ("Y_ENUM",.i 5),
 ("Y_UNION",.i 6),
 ("Y_INTER",.i 7),
 ("Y_PARAM",.i 10),
 ("Y_TUPLE",.i 12),
 ("Y_KEYOF",.i 14),
 ("Y_TPL",.i 18),
 ("ANY",.i 0),
 ("UNKNOWN",.i 1),
 ("NEVER",.i 2),
 ("UNDEF",.i 4),
 ("NULLT",.i 5),
 ("STRING",.i 6),
 ("NUMBER",.i 7),
 ("FALSE_T",.i 8),
 ("TRUE_T",.i 9),
 ("BOOLEAN",.i 12),
 ("ERR",.i 13),
 ("FRESH_F",.i 14),
 ("FRESH_T",.i 15),
 ("E_SPREAD",.i 3),
 ("MAX_UNION",.i 400),
 ("FIRST_ROWS",.t [.t [.i 1,.s [97,110,121]],.t [.i 1,.s [117,110,107,110,111,119,110]],.t [.i 1,.s [110,101,118,101,114]],.t [.i 1,.s [118,111,105,100]],.t [.i 1,.s [117,110,100,101,102,105,110,101,100]],.t [.i 1,.s [110,117,108,108]],.t [.i 1,.s [115,116,114,105,110,103]],.t [.i 1,.s [110,117,109,98,101,114]],.t [.i 2,.i 0,.i 0],.t [.i 2,.i 1,.i 0],.t [.i 1,.s [111,98,106,101,99,116]],.t [.i 8,.t [],.t [],.t [],.t [],.t [],.i 0],.t [.i 6,.t [.i 8,.i 9]],.t [.i 1,.s [101,114,114,111,114]],.t [.i 2,.i 0,.i 1],.t [.i 2,.i 1,.i 1]]),
 ("MARKED_ROWS",.t [.i 2,.i 3,.i 4,.i 5,.i 8]),
 ("TypeTable",.c "TypeTable"),
 ("kind_of",.f "kind_of"),
 ("str_type",.f "str_type"),
 ("num_type",.f "num_type"),
 ("member_type",.f "member_type"),
 ("new_param",.f "new_param"),
 ("parts_of",.f "parts_of"),
 ("whole_of_row",.f "whole_of_row"),
 ("regular_twin",.f "regular_twin"),
 ("join_bools",.f "join_bools"),
 ("stays_beside",.f "stays_beside"),
 ("top_of",.f "top_of"),
 ("union",.f "union"),
 ("MOST_CROSSED",.i 200),
 ("TOP_NUMBER",.i 9007199254740991),
 ("OPEN_KINDS",.t [.i 10,.i 14,.i 15,.i 16,.i 17,.i 19]),
 ("is_open",.f "is_open"),
 ("unit_word",.f "unit_word"),
 ("digits_back",.f "digits_back"),
 ("glue",.f "glue"),
 ("hole_pieces",.f "hole_pieces"),
 ("cross_holes",.f "cross_holes"),
 ("one_template",.f "one_template"),
 ("tpl_kind",.f "tpl_kind"),
 ("cut_holes",.f "cut_holes"),
 ("tpl_match",.f "tpl_match"),
 ("MOST_ROUNDS",.i 200),
 ("Thin",.c "Thin"),
 ("_law_texts",.f "_law_texts"),
 ("_law_bits",.f "_law_bits"),
 ("_law_stock",.f "_law_stock"),
 ("_law_hole",.f "_law_hole"),
 ("_law_words",.f "_law_words"),
 ("_law_read",.f "_law_read"),
 ("_law_number",.f "_law_number"),
 ("_law_cut",.f "_law_cut"),
 ("_law_want",.f "_law_want"),
 ("_law_fill",.f "_law_fill"),
 ("len",.u "len"),
 ("sorted",.u "sorted"),
 ("isinstance",.u "isinstance"),
 ("str",.y "str"),
 ("int",.y "int"),
 ("range",.y "range"),
 ("tuple",.y "tuple")]
noncomputable def Vp:ae (aC×FD):=[("TypeTable.__init__",sE),("TypeTable.row",fd_TypeTable_row),("TypeTable.put",fd_TypeTable_put),("kind_of",fd_kind_of),("str_type",fd_str_type),("num_type",fd_num_type),("member_type",vK),("new_param",xS),("parts_of",fd_parts_of),("whole_of_row",fd_whole_of_row),("regular_twin",fd_regular_twin),("join_bools",fd_join_bools),("stays_beside",fd_stays_beside),("top_of",fd_top_of),("union",fd_union),("is_open",fd_is_open),("unit_word",fd_unit_word),("digits_back",fd_digits_back),("glue",fd_glue),("hole_pieces",fd_hole_pieces),("cross_holes",fd_cross_holes),("one_template",fd_one_template),("tpl_kind",fd_tpl_kind),("cut_holes",fd_cut_holes),("tpl_match",fd_tpl_match),("Thin.__init__",xT),("Thin.force",fd_Thin_force),("_law_texts",fd_law_texts),("_law_bits",fd_law_bits),("_law_stock",xU),("_law_hole",fd_law_hole),("_law_words",fd_law_words),("_law_read",fd_law_read),("_law_number",fd_law_number),("_law_cut",fd_law_cut),("_law_want",fd_law_want),("_law_fill",fd_law_fill),("take",fd_take)]
noncomputable def O9:ae ((aC×aC)×aC):=[(("TypeTable","__init__"),"TypeTable.__init__"),(("TypeTable","row"),"TypeTable.row"),(("TypeTable","put"),"TypeTable.put"),(("Thin","__init__"),"Thin.__init__"),(("Thin","force"),"Thin.force")]
noncomputable def Uz:ae (aC×ae aC):=[("TypeTable",["rows","index","decls","bounds","defaults","names","origins","renamed","shaping"]),("Thin",["tab","deep","most_rounds"])]
noncomputable def PR:Prog:={g:=λx=>O8.lookup x,f:=λf=>Vp.lookup f,m:=λc m=>O9.lookup (c,m),x:=λc=>c=="TooDeep",s:=λc=>(Uz.lookup c).getD []}
section rules
variable {P:Prog} {n:af} {I fr1 fr2:AF} {J C U σ3 σ4:St} {a b c e t f:IE} {es ks vs args:ae IE} {v x y z w g o:AV} {us ws:ae AV} {s:aC}
theorem bL:bg P (n+1) I (.l v) J=.k v J:=rfl
theorem aO (h:I.v.lookup s=aa v):bg P (n+1) I (.v s) J=.k v J:=by show opt J _=_;rw[h];rfl
theorem gW (h:j9 I s J=aa v):bg P (n+1) I (.c s) J=.k v J:=by show opt J _=_;rw[h];rfl
theorem cC (h:P.g s=aa v):bg P (n+1) I (.g s) J=.k v J:=by show opt J _=_;rw[h];rfl
theorem fX {op:jI} (c:bg P n I a J=.k x C) (d:bg P n I b C=.k y U) (e:binop op x y U=.k v σ3):bg P (n+1) I (.b op a b) J=.k v σ3:=by show(bg P n I a J).bind _=_;rw[c];show(bg P n I b C).bind _=_;rw[d];exact e
variable {r:bD} {k q id:aC} {src:au af} {op op':qb} {l d:af} {its all ds:ae AV} {β:Type} {turn:AV->β->St->R (Fl×β)} {ps xs:ae aC} {bd:ae IS} {bs fs:ae (aC×AV)} {i:aq} {cs:ae (aC×af)} {q1:β}
theorem O' (h:bg P n I a J=.k (.i i) C):bg P (n+1) I (.n a) J=.k (.i (-i)) C:=by show(bg P n I a J).bind _=_;rw[h];rfl
theorem Ff {op:BoolOp} (h:tJ P n I op es J=.k v C):bg P (n+1) I (.o op es) J=.k v C:=h
theorem oi (c:bg P n I a J=.k x C) (d:bg P n I b C=.k y U) (e:dG op x y U=aa r):bg P (n+1) I (.m a op b) J=.k (.b r) U:=by show(bg P n I a J).bind _=_;rw[c];show(bg P n I b C).bind _=_;rw[d];show(opt U _).bind _=_;rw[e];rfl
theorem M7 (d:bg P n I a J=.k x C) (e:bg P n I b C=.k y U) (f:dG op x y U=aa ai) (g:bg P n I c U=.k z σ3) (h:dG op' y z σ3=aa r):bg P (n+1) I (.M a op b op' c) J=.k (.b r) σ3:=by show(bg P n I a J).bind _=_;rw[d];show(bg P n I b C).bind _=_;rw[e];show(opt U _).bind _=_;rw[f];show(bg P n I c U).bind _=_;rw[g];show(opt σ3 _).bind _=_;rw[h];rfl
theorem M8 (d:bg P n I a J=.k x C) (e:bg P n I b C=.k y U) (f:dG op x y U=aa aD):bg P (n+1) I (.M a op b op' c) J=.k (.b aD) U:=by show(bg P n I a J).bind _=_;rw[d];show(bg P n I b C).bind _=_;rw[e];show(opt U _).bind _=_;rw[f];rfl
theorem A_ (c:er P n I t J=.k r C) (d:(bif r then bg P n I a C else bg P n I b C)=.k v U):bg P (n+1) I (.i t a b) J=.k v U:=by show(er P n I t J).bind _=_;rw[c];clear c;cases r<;>exact d
theorem sQ (h:ie P n I es J=.k us C) (a:bV us=ai):bg P (n+1) I (.p es) J=.k (.t us) C:=by show(ie P n I es J).bind _=_;rw[h];show(if bV us=ai then _ else _)=_;rw[aF a]
theorem jQ (h:ie P n I es J=.k us C) (a:bV us=ai):bg P (n+1) I (.s es) J=.k (.l (Wb C)) (C++[.l us]):=by show(ie P n I es J).bind _=_;rw[h];show(if bV us=ai then _ else _)=_;rw[aF a];rfl
theorem S4 (h:bg P n I a J=.k (.l l) C) (b:C[l]?=aa (.i k d)) (c:(P.s k).contains s=ai) (hd:C[d]?=aa (.n fs)) (e:(fs.lookup s).bind Mb=aa v):
  bg P (n+1) I (.a a s) J=.k v C:=by
 show(bg P n I a J).bind _=_;rw[h];show Ey P s C C[l]?=_;rw[b];show(if(P.s k).contains s=ai then JD s C C[d]? else _)=_;rw[aF c,hd];show opt C _=_;rw[e];rfl
theorem eu (c:bg P n I a J=.k x C) (d:bg P n I b C=.k y U) (e:du x y U=aa v):bg P (n+1) I (.u a b) J=.k v U:=by show(bg P n I a J).bind _=_;rw[c];show(bg P n I b C).bind _=_;rw[d];show opt U _=_;rw[e];rfl
theorem oX {lo b:au IE} {l h:au AV} (c:bg P n I a J=.k x C) (d:vq P n I lo C=.k l U) (f:vq P n I b U=.k h σ3) (g:slice x l h σ3=.k v σ4):bg P (n+1) I (.e a lo b) J=.k v σ4:=by show(bg P n I a J).bind _=_;rw[c];show(vq P n I lo C).bind _=_;rw[d];show(vq P n I b U).bind _=_;rw[f];exact g
theorem bU (a:bg P n I f J=.k g C) (b:ie P n I args C=.k us U) (c:mw P n g us U=.k v σ3):bg P (n+1) I (.f f args) J=.k v σ3:=by show(bg P n I f J).bind _=_;rw[a];show(ie P n I args C).bind _=_;rw[b];exact c
theorem Ba (h:bg P n I a J=.k (.l l) C) (b:C[l]?=aa (.i k d)) (hd:C[d]?=aa (.n fs)) (c:P.m k s=aa q) (e:(!P.x k&&(fs.lookup s).isNone)=ai)
  (g:ie P n I args C=.k us U) (j:mw P n (.f q) (.l l::us) U=.k v σ3):bg P (n+1) I (.h a s args) J=.k v σ3:=by
 show(bg P n I a J).bind _=_;rw[h];show(match xF C[l]? with|some p=>(opt C (EA P s p.1 C[p.2]?)).bind _|none=>_)=_;rw[b];show(opt C (EA P s k C[d]?)).bind _=_;rw[hd];show(opt C (if(!P.x k&&(fs.lookup s).isNone)=ai then P.m k s else ah)).bind _=_;rw[aF e,c];show(ie P n I args C).bind _=_;rw[g];exact j
theorem Ct (h:bg P n I a J=.k o C) (b:AA C o=ah) (c:H4 o s C=aa id) (d:ie P n I args C=.k us U) (e:jg id o us U=.k v σ3):
  bg P (n+1) I (.h a s args) J=.k v σ3:=by
 show(bg P n I a J).bind _=_;rw[h];show(match AA C o with|some p=>_|none=>(opt C (H4 o s C)).bind _)=_;rw[b,c];show(ie P n I args C).bind _=_;rw[d];exact e
theorem bu:ie P (n+1) I [] J=.k [] J:=rfl
theorem aS (h:bg P n I e J=.k v C) (a:ie P n I es C=.k us U):ie P (n+1) I (e::es) J=.k (v::us) U:=by show(bg P n I e J).bind _=_;rw[h];show(ie P n I es C).bind _=_;rw[a];rfl
theorem oM:vq P (n+1) I ah J=.k ah J:=rfl
theorem lG (h:bg P n I e J=.k v C):vq P (n+1) I (aa e) J=.k (aa v) C:=by show(bg P n I e J).bind _=_;rw[h];rfl
theorem xV {op:BoolOp} (h:bg P n I e J=.k v C):tJ P (n+1) I op [e] J=.k v C:=by show(bg P n I e J).bind _=_;rw[h];rfl
theorem Fg (h:bg P n I e J=.k x C) (b:truth x C=aa r) (c:(bif r then tJ P n I .And (a::es) C else .k x C)=.k v U):tJ P (n+1) I .And (e::a::es) J=.k v U:=by show(bg P n I e J).bind _=_;rw[h];show(opt C _).bind _=_;rw[b];clear b;cases r<;>exact c
theorem IL (h:bg P n I e J=.k x C) (b:truth x C=aa r) (c:(bif r then .k x C else tJ P n I .Or (a::es) C)=.k v U):tJ P (n+1) I .Or (e::a::es) J=.k v U:=by show(bg P n I e J).bind _=_;rw[h];show(opt C _).bind _=_;rw[b];clear b;cases r<;>exact c
theorem IM (h:er P n I a J=.k r C):er P (n+1) I (.t a) J=.k (!r) C:=by show(er P n I a J).bind _=_;rw[h];rfl
theorem u_ {op:BoolOp} (h:rm P n I op es J=.k r C):er P (n+1) I (.o op es) J=.k r C:=h
theorem ef (c:bg P n I a J=.k x C) (d:bg P n I b C=.k y U) (e:dG op x y U=aa r):er P (n+2) I (.m a op b) J=.k r U:=by show(bg P (n+1) I (.m a op b) J).bind _=_;rw[oi c d e];rfl
theorem KA (h:bg P n I (.M a op b op' c) J=.k (.b r) C):er P (n+1) I (.M a op b op' c) J=.k r C:=by show(bg P n I (.M a op b op' c) J).bind _=_;rw[h];rfl
theorem KC (h:bg P n I (.f f args) J=.k v C) (a:truth v C=aa r):er P (n+1) I (.f f args) J=.k r C:=by show(bg P n I (.f f args) J).bind _=_;rw[h];show opt C _=_;rw[a];rfl
theorem UA (h:I.v.lookup s=aa v) (a:truth v J=aa r):er P (n+2) I (.v s) J=.k r J:=by show(bg P (n+1) I (.v s) J).bind _=_;rw[aO h];show opt J _=_;rw[a];rfl
theorem P_ {op:BoolOp}:rm P (n+1) I op [] J=.k (match op with|.And=>ai|.Or=>aD) J:=rfl
theorem lu {q:bD} (h:er P n I e J=.k r C) (a:(bif r then rm P n I .And es C else .k aD C)=.k q U):rm P (n+1) I .And (e::es) J=.k q U:=by show(er P n I e J).bind _=_;rw[h];clear h;cases r<;>exact a
theorem tQ {q:bD} (h:er P n I e J=.k r C) (a:(bif r then .k ai C else rm P n I .Or es C)=.k q U):rm P (n+1) I .Or (e::es) J=.k q U:=by show(er P n I e J).bind _=_;rw[h];clear h;cases r<;>exact a
theorem gM (h:builtin id us J=.k v C):mw P (n+1) (.u id) us J=.k v C:=h
theorem nF (h:kq id us J=.k v C):mw P (n+1) (.y id) us J=.k v C:=h
theorem jX (h:cg P n s [] us J=.k v C):mw P (n+1) (.f s) us J=.k v C:=h
theorem Bc (h:cg P n s cs us J=.k v C):mw P (n+1) (.o s cs) us J=.k v C:=h
variable {st:IS} {ss ss1 ss2:ae IS} {fl:Fl}
noncomputable def Fl.val:Fl->AV
 |.n=>.n
 |.r v=>v
theorem bX (b:P.f q=aa ⟨ps,ds,[],bd⟩) (c:ni ps ds us=aa bs) (h:dw P n bd ⟨bs,[]⟩ J=.k (fl,I) C) (d:fl.val=v):
  cg P (n+1) q [] us J=.k v C:=by
 show(match P.f q with|none=>_|some fd=>_)=_;rw[b];show(match ni ps ds us with|none=>_|some bs=>_)=_;rw[c];show(gc _ (dw P n bd ⟨bs.filter λa=>ai,[]⟩ J)).bindX _=_;rw[qD.mpr λa a=>rfl,h];refine dH d ?_;clear h;cases fl<;>rfl
theorem O_ (b:P.f q=aa ⟨ps,ds,[],bd⟩) (c:ni ps ds us=aa bs) (h:dw P n bd ⟨bs,[]⟩ J=.x k C):
  cg P (n+1) q [] us J=.x k C:=by
 show(match P.f q with|none=>_|some fd=>_)=_;rw[b];show(match ni ps ds us with|none=>_|some bs=>_)=_;rw[c];show(gc _ (dw P n bd ⟨bs.filter λa=>ai,[]⟩ J)).bindX _=_;rw[qD.mpr λa a=>rfl,h];rfl
theorem mU {cl:ae aC} {a:ae (aC×af)} {bs':ae (aC×AV)} (d:P.f q=aa ⟨ps,ds,cl,bd⟩) (e:ni ps ds us=aa bs) (c:bs.filter (λb=>!cl.contains b.1)=bs') (g:j8 cl bs J=(a,U))
  (h:dw P n bd ⟨bs',a++cs⟩ U=.k (fl,I) C) (i:fl.val=v):
  cg P (n+1) q cs us J=.k v C:=by
 show(match P.f q with|none=>_|some fd=>_)=_;rw[d];show(match ni ps ds us with|none=>_|some bs=>_)=_;rw[e];show(gc _ (dw P n bd ⟨bs.filter λb=>!cl.contains b.1,(j8 cl bs J).1++cs⟩ (j8 cl bs J).2)).bindX _=_;rw[g,c,h];refine dH i ?_;clear h;cases fl<;>rfl
theorem cG:dw P (n+1) [] I J=.k (.n,I) J:=rfl
theorem aT (h:cS P n st I J=.k (.n,fr1) C) (a:dw P n ss fr1 C=.k (fl,fr2) U):dw P (n+1) (st::ss) I J=.k (fl,fr2) U:=by show(cS P n st I J).bindX _=_;rw[h];exact a
theorem yI (h:cS P n st I J=.k (.n,fr1) C) (a:dw P n ss fr1 C=.x k U):dw P (n+1) (st::ss) I J=.x k U:=by show(cS P n st I J).bindX _=_;rw[h];exact a
theorem cY (h:cS P n st I J=.k (.r v,fr1) C):dw P (n+1) (st::ss) I J=.k (.r v,fr1) C:=by show(cS P n st I J).bindX _=_;rw[h];rfl
theorem Bd (h:cS P n st I J=.x k C):dw P (n+1) (st::ss) I J=.x k C:=by show(cS P n st I J).bindX _=_;rw[h];rfl
theorem fi (h:bg P n I e J=.k v C):cS P (n+1) (.r e) I J=.k (.r v,I) C:=by show(bg P n I e J).bind _=_;rw[h];rfl
theorem Vq (h:bg P n I e J=.k v C) (a:v=.n\/∃i,v=.i i):cS P (n+1) (.e e) I J=.k (.n,I) C:=by show(bg P n I e J).bind _=_;rw[h];rcases a with rfl|⟨i,rfl⟩<;>rfl
theorem dQ (h:bg P n I e J=.k v C):cS P (n+1) (.a s e) I J=.k (.n,{I with v:=bA s v I.v}) C:=by show(gc _ (bg P n I e J)).bindX _=_;rw[h];rfl
theorem S5 (b:fG e=ai) (h:bg P n I e J=.x k C):cS P (n+1) (.a s e) I J=.x k C:=by show(gc (fG e) (bg P n I e J)).bindX _=_;rw[h,b];rfl
theorem KD {q:au AV} (h:bg P n I e J=.k v C) (a:I.c.lookup s=aa l) (d:C[l]?=aa (.c q)):cS P (n+1) (.c s e) I J=.k (.n,I) (C.set l (.c (aa v))):=by
 show(bg P n I e J).bind _=_;rw[h];show(match((qK I s v C).map λJ=>(I,J):au (AF×St))with|some r=>R.k (Fl.n,r.1) r.2|none=>.b)=_;have:qK I s v C=aa (C.set l (.c (aa v))):=by unfold qK;rw[a];show(match C[l]? with|some (.c _)=>_|_=>_)=_;rw[d]
 rw[this];rfl
theorem S6 (h:bg P n I e J=.k (.t us) C) (a:(Wb xs)=(Wb us)):cS P (n+1) (.t xs e) I J=.k (.n,{I with v:=B8 xs us I.v}) C:=by show(bg P n I e J).bind _=_;rw[h];show(match(if(Wb xs)=(Wb us)then aa ({I with v:=B8 xs us I.v},C)else ah:au (AF×St))with|some r=>R.k (Fl.n,r.1) r.2|none=>.b)=_;rw[aF a]
theorem KG (h:bg P n I e J=.k v C) (c:bg P n I a C=.k (.l l) U) (d:bg P n I b U=.k x σ3) (f:l9 l x v σ3=.k () σ4):cS P (n+1) (.s a b e) I J=.k (.n,I) σ4:=by show(bg P n I e J).bind _=_;rw[h];show(bg P n I a C).bind _=_;rw[c];show(bg P n I b U).bind _=_;rw[d];show(l9 l x v σ3).bind _=_;rw[f];rfl
theorem Be {p q:ae af} (h:I.v.lookup s=aa (.s p)) (a:bg P n I e J=.k (.s q) C) (b:bV (p++q)=ai):cS P (n+1) (.g s .Add e) I J=.k (.n,{I with v:=bA s (.s (p++q)) I.v}) C:=by show(opt J _).bind _=_;rw[h];show(bg P n I e J).bind _=_;rw[a];show(if bV (p++q)=ai then _ else _)=_;rw[aF b]
theorem dB (h:er P n I t J=.k r C) (a:(bif r then dw P n ss1 I C else dw P n ss2 I C)=.k (fl,fr1) U):cS P (n+1) (.i t ss1 ss2) I J=.k (fl,fr1) U:=by show(er P n I t J).bind _=_;rw[h];clear h;cases r<;>exact a
theorem UB (h:er P n I t J=.k r C) (a:(bif r then dw P n ss1 I C else dw P n ss2 I C)=.x k U):cS P (n+1) (.i t ss1 ss2) I J=.x k U:=by show(er P n I t J).bind _=_;rw[h];clear h;cases r<;>exact a
theorem Qa (h:P.g s=aa (.c k)) (a:P.x k=ai):cS P (n+1) (.x (.f (.g s) [.l (.i i)])) I J=.x k J:=by show(match P.g s with|some (.c b)=>_|_=>_)=_;rw[h];show(if P.x k=ai then _ else _)=_;rw[aF a]
theorem gI (h:bg P n I e J=.k x C) (a:items x C=aa (its,src)) (b:eJ src its (λv I J=>dw P n ss {I with v:=bA s v I.v} J) its I C=.k (fl,fr1) U):
  cS P (n+1) (.f (.v s) e ss) I J=.k (fl,fr1) U:=by
 show(gc _ (bg P n I e J)).bindX _=_;rw[h];show(opt C _).bindX _=_;rw[a];exact b
theorem S7 (h:bg P n I e J=.k x C) (a:items x C=aa (its,src)) (b:eJ src its (λv I J=>dw P n ss {I with v:=bA s v I.v} J) its I C=.x k U):
  cS P (n+1) (.f (.v s) e ss) I J=.x k U:=by
 show(gc _ (bg P n I e J)).bindX _=_;rw[h];show(opt C _).bindX _=_;rw[a];exact b
theorem S8 {i:af} (h:bg P n I e J=.k x C) (a:items x C=aa (its,aa i)) (c:eJ (aa i) its (λv I J=>match il (.p xs) v I J with|some r=>dw P n ss r.1 r.2|none=>.b) its I C=.k (fl,fr1) U):
  cS P (n+1) (.f (.p xs) e ss) I J=.k (fl,fr1) U:=by
 show(gc _ (bg P n I e J)).bindX _=_;rw[h];show(opt C _).bindX _=_;rw[a];exact c
theorem S9 (h:bg P n I e J=.k x C) (a:items x C=aa (its,src)) (d:eJ src its (λv I J=>match il (.c s) v I J with|some r=>dw P n ss r.1 r.2|none=>.b) its I C=.k (fl,fr1) U):
  cS P (n+1) (.f (.c s) e ss) I J=.k (fl,fr1) U:=by
 show(gc _ (bg P n I e J)).bindX _=_;rw[h];show(opt C _).bindX _=_;rw[a];exact d
theorem fZ {vs:ae AV} {q:β} {r:R (Fl×β)} (a:dU src all J=ai) (b:turn v q J=.k (.n,q1) C) (h:eJ src all turn vs q1 C=r):eJ src all turn (v::vs) q J=r:=by show(if dU src all J=ai then(turn v q J).bindX _ else _)=_;rw[aF a,b];exact h
theorem yJ {vs:ae AV} {q:β} (a:dU src all J=ai) (b:turn v q J=.k (.r x,q1) C):eJ src all turn (v::vs) q J=.k (.r x,q1) C:=by show(if dU src all J=ai then(turn v q J).bindX _ else _)=_;rw[aF a,b];rfl
theorem UC {vs:ae AV} {q:β} (a:dU src all J=ai) (b:turn v q J=.x k C):eJ src all turn (v::vs) q J=.x k C:=by show(if dU src all J=ai then(turn v q J).bindX _ else _)=_;rw[aF a,b];rfl
theorem iY {q:β} (a:dU src all J=ai):eJ src all turn [] q J=.k (.n,q) J:=by show(if dU src all J=ai then _ else _)=_;rw[aF a]
end rules
section more
variable {P:Prog} {n:af} {J fr1 fr2:AF} {I C σ2 σ3 σ4:St} {a b c e t f:IE} {es ks vs args:ae IE} {v x y z w g o:AV} {us ws:ae AV} {s:aC} {st:IS} {ss ss1 ss2:ae IS} {fl:Fl}
noncomputable def IP (P:Prog) (n:af) (ss:ae IS) (fl:Fl) (J:AF) (I:St):R (Fl×AF):=match fl with|.n=>dw P n ss J I|.r v=>.k (.r v,J) I
theorem IQ {r:R (Fl×AF)} (h:cS P n st J I=.k (fl,fr1) C) (a:IP P n ss fl fr1 C=r):dw P (n+1) (st::ss) J I=r:=by show(cS P n st J I).bindX _=_;rw[h,<-a];clear h a;cases fl<;>rfl
theorem Fh {r:R (Fl×AF)} (h:dw P n ss J I=r):IP P n ss .n J I=r:=h
theorem S':IP P n ss (.r v) J I=.k (.r v,J) I:=rfl
variable {U:au af} {α β:Type} {p q r:α} {l:af} {all its:ae AV} {turn:AV->β->St->R (Fl×β)} {d:bD} {i j:aq} {elt it:IE}
theorem nG (h:p=r):(bif ai then p else q)=r:=h
theorem ix (h:q=r):(bif aD then p else q)=r:=h
theorem KH (hd:d=ai) (h:p=r):(bif d then p else q)=r:=by rw[hd];exact h
theorem KJ (hd:d=aD) (h:q=r):(bif d then p else q)=r:=by rw[hd];exact h
theorem IR (h:i=j):dG .Eq (.i i) (.i j) I=aa ai:=by show aa (decide (i=j))=_;rw[aI h]
theorem IU (h:i≠j):dG .Eq (.i i) (.i j) I=aa aD:=by show aa (decide (i=j))=_;rw[aX h]
noncomputable def IV {β:Type} (U:au af) (all:ae AV) (turn:AV->β->St->R (Fl×β)) (vs:ae AV) (fl:Fl) (q:β) (I:St):R (Fl×β):=match fl with|.n=>eJ U all turn vs q I|.r v=>.k (.r v,q) I
theorem UD {vs:ae AV} {q q1:β} {r:R (Fl×β)} (b:dU U all I=ai) (a:turn v q I=.k (fl,q1) C) (h:IV U all turn vs fl q1 C=r):eJ U all turn (v::vs) q I=r:=by show(if dU U all I=ai then(turn v q I).bindX _ else _)=_;rw[aF b,a,<-h];clear h a;cases fl<;>rfl
theorem Qb {vs:ae AV} {q:β} {r:R (Fl×β)} (h:eJ U all turn vs q I=r):IV U all turn vs .n q I=r:=h
theorem Qc {vs:ae AV} {q:β}:IV U all turn vs (.r v) q I=.k (.r v,q) I:=rfl
theorem mC (h:bg P n J e I=.k .n C):cS P (n+1) (.e e) J I=.k (.n,J) C:=Vq h (.inl rfl)
theorem mD (h:bg P n J a I=.k (.l l) C) (b:C[l]?=aa (.l us)) (c:ie P n J args C=.k ws σ2) (d:jg "list.append" (.l l) ws σ2=.k v σ3):bg P (n+1) J (.h a "append" args) I=.k v σ3:=
 Ct h (by show xF C[l]?=ah;rw[b];rfl) (by show Ay _ C[l]?=_;rw[b];rfl) c d
theorem IW {es:ae (AV×AV)} (h:bg P n J a I=.k (.l l) C) (b:C[l]?=aa (.d es)) (c:ie P n J args C=.k ws σ2) (e:jg "dict.get" (.l l) ws σ2=.k v σ3):bg P (n+1) J (.h a "get" args) I=.k v σ3:=
 Ct h (by show xF C[l]?=ah;rw[b];rfl) (by show Ay _ C[l]?=_;rw[b];rfl) c e
theorem KL {p:ae af} (h:bg P n J a I=.k (.s p) C) (b:ie P n J args C=.k ws σ2) (c:jg "str.find" (.s p) ws σ2=.k v σ3):bg P (n+1) J (.h a "find" args) I=.k v σ3:=
 Ct h rfl rfl b c
theorem bB {x:aC} {v:AV} {l:ae (aC×AV)}:(bA x v l).lookup x=aa v:=by
 induction l with
 |nil=>show(match x==x with|true=>_|false=>_)=_;rw[fk]
 |cons e r a=>
  rcases e with⟨y,w⟩;show(if x=y then(x,v)::r else(y,w)::bA x v r).lookup x=_;by_cases h:x=y
  ·rw[aF h];show(match x==x with|true=>_|false=>_)=_;rw[fk]
  ·rw[aG h];show(match x==y with|true=>_|false=>_)=_;rw[uY h];exact a
theorem a_ {x y:aC} (h:x≠y) {v:AV} {l:ae (aC×AV)}:(bA y v l).lookup x=l.lookup x:=by
 induction l with
 |nil=>show(match x==y with|true=>_|false=>_)=_;rw[uY h]
 |cons e r a=>
  rcases e with⟨z,w⟩;show(if y=z then(y,v)::r else(z,w)::bA y v r).lookup x=_;by_cases q:y=z
  ·refine dH q ?_;rw[aF rfl];show(match x==y with|true=>_|false=>_)=(match x==y with|true=>_|false=>_);rw[uY h]
  ·rw[aG q];show(match x==z with|true=>_|false=>_)=(match x==z with|true=>_|false=>_);rw[a]
noncomputable def oN (P:Prog) (n:af) (cs:ae (aC×af)) (x:aC) (elt:IE) (l:af) (v:AV) (I:St):R dt:=(bg P n ⟨[(x,v)],cs⟩ elt I).bind λy I=>li l y I
noncomputable def Cu (P:Prog) (n:af) (cs:ae (aC×af)) (x:aC) (elt t:IE) (l:af) (v:AV) (I:St):R dt:=(er P n ⟨[(x,v)],cs⟩ t I).bind λb I=>if b then oN P n cs x elt l v I else .k () I
theorem b9 {x y:aC} {v:AV} {l:ae (aC×AV)} {r:au AV} (h:l.lookup x=r) (n:x≠y:=by with_unfolding_all decide):(bA y v l).lookup x=r:=(a_ n).trans h
theorem Fi {x:aC} (h:bg P n J it I=.k y C) (a:items y C=aa (its,U)) (b:(Wb C)=l) (d:C++[.l []]=σ3) (e:fp U its (oN P n J.c x elt l) its σ3=.k () σ2):
  bg P (n+1) J (.k elt x it ah) I=.k (.l l) σ2:=by
 show(bg P n J it I).bind _=_;rw[h];show(opt C _).bind _=_;rw[a];subst b d;show(fp U its (oN P n J.c x elt (Wb C)) its (C++[.l []])).bind _=_;rw[e];rfl
theorem UE {x:aC} {t:IE} (h:bg P n J it I=.k y C) (a:items y C=aa (its,U)) (b:(Wb C)=l) (d:C++[.l []]=σ3) (e:fp U its (Cu P n J.c x elt t l) its σ3=.k () σ2):
  bg P (n+1) J (.k elt x it (aa t)) I=.k (.l l) σ2:=by
 show(bg P n J it I).bind _=_;rw[h];show(opt C _).bind _=_;rw[a];subst b d;show(fp U its (Cu P n J.c x elt t (Wb C)) its (C++[.l []])).bind _=_;rw[e];rfl
end more
theorem KN:PR.g "TooDeep"=aa (.c "TooDeep"):=rfl
theorem Vr:PR.g "Y_BOOL"=aa (.i 2):=rfl
theorem Qd:PR.g "Y_STR"=aa (.i 3):=rfl
theorem VK:PR.g "Y_NUM"=aa (.i 4):=rfl
theorem Vs:PR.g "Y_ENUM"=aa (.i 5):=rfl
theorem U3:PR.g "Y_UNION"=aa (.i 6):=rfl
theorem Hx:PR.g "Y_TPL"=aa (.i 18):=rfl
theorem V9:PR.g "ANY"=aa (.i 0):=rfl
theorem U4:PR.g "UNKNOWN"=aa (.i 1):=rfl
theorem VL:PR.g "NEVER"=aa (.i 2):=rfl
theorem VM:PR.g "UNDEF"=aa (.i 4):=rfl
theorem VN:PR.g "NULLT"=aa (.i 5):=rfl
theorem M9:PR.g "STRING"=aa (.i 6):=rfl
theorem M_:PR.g "NUMBER"=aa (.i 7):=rfl
theorem U5:PR.g "FALSE_T"=aa (.i 8):=rfl
theorem Vt:PR.g "TRUE_T"=aa (.i 9):=rfl
theorem V_:PR.g "ERR"=aa (.i 13):=rfl
theorem U6:PR.g "FRESH_F"=aa (.i 14):=rfl
theorem U7:PR.g "FRESH_T"=aa (.i 15):=rfl
theorem T_:PR.g "MAX_UNION"=aa (.i 400):=rfl
theorem RZ:PR.g "MARKED_ROWS"=aa (.t [.i 2,.i 3,.i 4,.i 5,.i 8]):=rfl
theorem KP:PR.g "kind_of"=aa (.f "kind_of"):=rfl
theorem UF:PR.g "str_type"=aa (.f "str_type"):=rfl
theorem IX:PR.g "num_type"=aa (.f "num_type"):=rfl
theorem Bf:PR.g "parts_of"=aa (.f "parts_of"):=rfl
theorem Qe:PR.g "whole_of_row"=aa (.f "whole_of_row"):=rfl
theorem Qf:PR.g "regular_twin"=aa (.f "regular_twin"):=rfl
theorem S_:PR.g "join_bools"=aa (.f "join_bools"):=rfl
theorem Qg:PR.g "stays_beside"=aa (.f "stays_beside"):=rfl
theorem Vu:PR.g "top_of"=aa (.f "top_of"):=rfl
theorem Cw:PR.g "union"=aa (.f "union"):=rfl
theorem Cx:PR.g "MOST_CROSSED"=aa (.i 200):=rfl
theorem Fj:PR.g "TOP_NUMBER"=aa (.i 9007199254740991):=rfl
theorem Ta:PR.g "OPEN_KINDS"=aa (.t [.i 10,.i 14,.i 15,.i 16,.i 17,.i 19]):=rfl
theorem U8:PR.g "is_open"=aa (.f "is_open"):=rfl
theorem Ua:PR.g "unit_word"=aa (.f "unit_word"):=rfl
theorem DR:PR.g "digits_back"=aa (.f "digits_back"):=rfl
theorem V7:PR.g "glue"=aa (.f "glue"):=rfl
theorem DS:PR.g "hole_pieces"=aa (.f "hole_pieces"):=rfl
theorem xi:PR.g "cross_holes"=aa (.f "cross_holes"):=rfl
theorem Cy:PR.g "one_template"=aa (.f "one_template"):=rfl
theorem Bg:PR.g "tpl_kind"=aa (.f "tpl_kind"):=rfl
theorem GI:PR.g "cut_holes"=aa (.f "cut_holes"):=rfl
theorem GJ:PR.g "tpl_match"=aa (.f "tpl_match"):=rfl
theorem vc:PR.g "_law_texts"=aa (.f "_law_texts"):=rfl
theorem Bh:PR.g "_law_bits"=aa (.f "_law_bits"):=rfl
theorem IY:PR.g "_law_hole"=aa (.f "_law_hole"):=rfl
theorem GK:PR.g "_law_words"=aa (.f "_law_words"):=rfl
theorem IZ:PR.g "_law_read"=aa (.f "_law_read"):=rfl
theorem Fk:PR.g "_law_number"=aa (.f "_law_number"):=rfl
theorem Dd:PR.g "_law_cut"=aa (.f "_law_cut"):=rfl
theorem I3:PR.g "_law_want"=aa (.f "_law_want"):=rfl
theorem I4:PR.g "_law_fill"=aa (.f "_law_fill"):=rfl
theorem gn:PR.g "len"=aa (.u "len"):=rfl
theorem zO:PR.g "sorted"=aa (.u "sorted"):=rfl
theorem Tb:PR.g "isinstance"=aa (.u "isinstance"):=rfl
theorem Pa:PR.g "str"=aa (.y "str"):=rfl
theorem Wa:PR.g "int"=aa (.y "int"):=rfl
theorem mV:PR.g "range"=aa (.y "range"):=rfl
theorem yK:PR.g "tuple"=aa (.y "tuple"):=rfl
theorem Bi:PR.f "TypeTable.row"=aa fd_TypeTable_row:=rfl
theorem uF:PR.f "TypeTable.put"=aa fd_TypeTable_put:=rfl
theorem KQ:PR.f "kind_of"=aa fd_kind_of:=rfl
theorem I5:PR.f "str_type"=aa fd_str_type:=rfl
theorem I6:PR.f "num_type"=aa fd_num_type:=rfl
theorem Bj:PR.f "parts_of"=aa fd_parts_of:=rfl
theorem vL:PR.f "whole_of_row"=aa fd_whole_of_row:=rfl
theorem ma:PR.f "regular_twin"=aa fd_regular_twin:=rfl
theorem Fm:PR.f "join_bools"=aa fd_join_bools:=rfl
theorem vM:PR.f "stays_beside"=aa fd_stays_beside:=rfl
theorem Na:PR.f "top_of"=aa fd_top_of:=rfl
theorem yL:PR.f "union"=aa fd_union:=rfl
theorem KR:PR.f "is_open"=aa fd_is_open:=rfl
theorem jR:PR.f "unit_word"=aa fd_unit_word:=rfl
theorem mP:PR.f "digits_back"=aa fd_digits_back:=rfl
theorem Tc:PR.f "glue"=aa fd_glue:=rfl
theorem DT:PR.f "hole_pieces"=aa fd_hole_pieces:=rfl
theorem xj:PR.f "cross_holes"=aa fd_cross_holes:=rfl
theorem qO:PR.f "one_template"=aa fd_one_template:=rfl
theorem Bk:PR.f "tpl_kind"=aa fd_tpl_kind:=rfl
theorem rA:PR.f "cut_holes"=aa fd_cut_holes:=rfl
theorem oO:PR.f "tpl_match"=aa fd_tpl_match:=rfl
theorem Fo:PR.f "Thin.force"=aa fd_Thin_force:=rfl
theorem GN:PR.f "_law_texts"=aa fd_law_texts:=rfl
theorem I7:PR.f "_law_bits"=aa fd_law_bits:=rfl
theorem Bl:PR.f "_law_hole"=aa fd_law_hole:=rfl
theorem vd:PR.f "_law_words"=aa fd_law_words:=rfl
theorem I8:PR.f "_law_read"=aa fd_law_read:=rfl
theorem nH:PR.f "_law_number"=aa fd_law_number:=rfl
theorem De:PR.f "_law_cut"=aa fd_law_cut:=rfl
theorem wK:PR.f "_law_want"=aa fd_law_want:=rfl
theorem I9:PR.f "_law_fill"=aa fd_law_fill:=rfl
theorem Td:PR.f "take"=aa fd_take:=rfl
set_option genInjectivity true in
inductive Row where
 |k (s:ae af)|b (v f:aq)|s (s:ae af) (f:aq)|n (n f:aq)|e (f:aq)|x (f:aq)
 |u (ts:ae aq)|o|p (p:aq)|y (t:aq)|t (xs:ae (ae af)) (ts:ae aq)
noncomputable def Row.vs:Row->ae AV
 |.k z=>[.i 1,.s z]
 |.b v f=>[.i 2,.i v,.i f]
 |.s z f=>[.i 3,.s z,.i f]
 |.n z f=>[.i 4,.i z,.i f]
 |.e f=>[.i 5,.i 1,.s [65],.i 3,.i f]
 |.x f=>[.i 5,.i 1,.s [66],.s [120],.i f]
 |.u ts=>[.i 6,.t (ts.map .i)]
 |.o=>[.i 8,.t [],.t [],.t [],.t [],.t [],.i 0]
 |.p z=>[.i 10,.i z]
 |.y z=>[.i 14,.i z]
 |.t xs ts=>[.i 18,.t (xs.map .s),.t (ts.map .i)]
noncomputable def dA (r:Row):AV:=.t r.vs
theorem Bm (ts:ae (ae af)):l8 (ts.map .s)=ai:=by induction ts with|nil=>rfl|cons _ _ a=>exact a
theorem Bo (ts:ae aq):(ts.map AV.i).all (gd 0)=ai:=by induction ts with|nil=>rfl|cons _ _ a=>exact a
theorem I_ (ts:ae (ae af)):(ts.map AV.s).all (gd 0)=ai:=by induction ts with|nil=>rfl|cons _ _ a=>exact a
theorem KS (r:Row):kk (dA r)=aa .t:=by
 have h:tH r.vs=ai:=by induction r using Tactic.Row.casesOn with|u ts=>show((ts.map AV.i).all (gd 0)&&ai)=ai;rw[Bo];rfl|t xs ts=>show((xs.map AV.s).all (gd 0)&&((ts.map AV.i).all (gd 0)&&ai))=ai;rw[Bo,I_];rfl|_=>rfl
 show(if tH r.vs=ai then _ else _)=_;rw[aF h]
noncomputable def m6:ae Row->af->ae (AV×AV)
 |[],_=>[]
 |r::R,k=>(dA r,.i k)::m6 R (k+1)
noncomputable def rfind:ae Row->Row->af->au af
 |[],_,_=>ah
 |q::R,r,k=>bif dO (dA q) (dA r)then aa k else rfind R r (k+1)
theorem wL:∀(R:ae Row) (r:Row) (k:af),iX (m6 R k) (dA r)=(rfind R r k).map λ(k:af)=>AV.i k:=by
 intro a;induction a with
 |nil=>exactλd d=>rfl
 |cons q R b=>intro r k;have c:=b r (k+1);unfold iX at c⊢;unfold m6 rfind;rw[ik];induction dO (dA q) (dA r)using b_ with|true=>rfl|false=>exact c
theorem wM (R:ae Row) (r:Row):∀k,d_ (m6 R k) (dA r)=ai:=by intro k;unfold d_;rw[KS];show(ai&&_)=ai;rw[jA];induction R generalizing k with|nil=>rfl|cons q R a=>show(decide (kk (dA q)=aa .t)&&(m6 R (k+1)).all _)=ai;rw[KS,a];rfl
theorem Qh:∀(R:ae Row) (k:af),(m6 R k).length=R.length:=by intro a;induction a with|nil=>exactλc=>rfl|cons _ R b=>exactλk=>aU (·+1) (b (k+1))
theorem Nb:∀(R:ae Row) (r:Row) (k:af),rfind R r k=ah->oF (dA r) (.i ((k+R.length:af):aq)) (m6 R k)=m6 (R++[r]) k:=by
 intro a;induction a with
 |nil=>exactλr k d=>rfl
 |cons q R b=>intro r k h;unfold rfind at h;show(if dO (dA q) (dA r)=ai then _ else _)=_;cases e:dO (dA q) (dA r)with|true=>rw[e]at h;cases h|false=>rw[e]at h;rw[aG (by simp)];have c:=b r (k+1) h;rw[show k+1+R.length=k+(R.length+1)by exact aB #[19] #[20]]at c;exact aU (_::·) c
noncomputable def Te:ae (aC×AV):=[("rows",.l 7),("index",.l 8),("decls",.l 9),("bounds",.l 10),("defaults",.l 11),("names",.l 12),("origins",.l 13),("renamed",.l 14),("shaping",.i 0)]
noncomputable def Vv:ae (aC×AV):=[("tab",.l 6),("deep",.i 0),("most_rounds",.i 200)]
noncomputable def bz (b:ae aq) (a:aq) (R:ae Row):St:=[.l (b.map .i),.l [.i a],.c (aa (.l 0)),.c (aa (.l 1)),.c (aa (.l 6)),.n Te,.i "TypeTable" 5,.l (R.map dA),.d (m6 R 0),
 .l [.n],.l [.i (-1)],.l [.i (-1)],.l [.s [84]],.d [],.d [],.n Vv,.i "Thin" 15]
section
variable {I:ae aq} {C:aq} {T:ae Row} {G:St} {fr:AF} {n:af} {σ:St} {a:IE} {s:aC}
theorem KU (r:Row):dG .In (dA r) (.l 8) (bz I C T++G)=aa (rfind T r 0).isSome:=by show(if d_ (m6 T 0) (dA r)=ai then aa (iX (m6 T 0) (dA r)).isSome else ah)=_;rw[aF (wM T r 0),wL,jw]
variable {r:Row} {k:af}
theorem Nc (h:rfind T r 0=aa k):dG .In (dA r) (.l 8) (bz I C T++G)=aa ai:=by rw[KU,h];rfl
theorem Nd (h:rfind T r 0=ah):dG .In (dA r) (.l 8) (bz I C T++G)=aa aD:=by rw[KU,h];rfl
theorem Qi (h:rfind T r 0=aa k):du (.l 8) (dA r) (bz I C T++G)=aa (.i k):=by show(if d_ (m6 T 0) (dA r)=ai then iX (m6 T 0) (dA r)else ah)=_;rw[aF (wM T r 0),wL,h];rfl
theorem Nf (a:(Wb T)<=1000000):builtin "len" [.l 7] (bz I C T++G)=.k (.i (Wb T)) (bz I C T++G):=by show(if bV (T.map dA)=ai then R.k (AV.i ((T.map dA).length:af)) _ else _)=_;rw[aF (by unfold bV;rw[az];exact aI (dI a #[0])),az]
theorem KV (r:Row) (a:(Wb T)<=1000000):jg "list.append" (.l 7) [dA r] (bz I C T++G)=.k .n ((bz I C T++G).set 7 (.l ((T++[r]).map dA))):=by show(if bV (T.map dA)=ai then(R.k () _:R dt)else _).bind _=_;rw[aF (by unfold bV;rw[az];exact aI (dI a #[0])),dh];rfl
theorem Qj (h:rfind T r 0=ah) (a:(Wb T)<=1000000):l9 8 (dA r) (.i ((Wb T):af)) ((bz I C T++G).set 7 (.l ((T++[r]).map dA)))=.k () (bz I C (T++[r])++G):=by show(if(d_ (m6 T 0) (dA r)&&bV (m6 T 0))=ai then R.k () (((bz I C T++G).set 7 (.l ((T++[r]).map dA))).set 8 (.d (oF (dA r) (.i (Wb T)) (m6 T 0))))else _)=_;rw[aF (by rw[wM];unfold bV;rw[Qh];exact aI (dI a #[0]))];have e:=Nb T r 0 h;rw[eQ]at e;rw[e];rfl
noncomputable def eZ (T:ae Row) (r:Row):af×ae Row:=match rfind T r 0 with|some k=>(k,T)|none=>((Wb T),T++[r])
end
section
variable {I:ae aq} {C:aq} {T:ae Row} {G X:St} {R:AF} {n k:af} {σ U J:St} {s:aC} {v:AV} {us:ae AV} {es:ae IE}
theorem gk k:(bz I C T++(G++X))[(Wb G)+k+17]?=X[k]?:=by show(G++X)[(Wb G)+k]?=_;rw[be #[21],gi]
theorem Hy {α:Type}:∀(A B:ae α) k (o:α),(A++B).set ((Wb A)+k) o=A++B.set k o:=by
 intro b;induction b with
 |nil=>exactλd d d=>by rw[cR,eQ];rfl
 |cons a A c=>exactλB k o=>by rw[aQ,show(Wb A)+1+k=(Wb A)+k+1 by exact aB #[181] #[182]];exact aU (a::·) (c B k o)
theorem sk k (o:AO):(bz I C T++(G++X)).set ((Wb G)+k+17) o=bz I C T++(G++X.set k o):=by rw[<-Hy];rfl
theorem lk:(bz I C T++(G++X)).length=(Wb G)+X.length+17:=by rw[<-ar];rfl
theorem ak o:(bz I C T++(G++X))++[o]=bz I C T++(G++(X++[o])):=by rw[aj,aj]
theorem KW (a:R.c.lookup s=aa ((Wb G)+k+17)) (b:X[k]?=aa (.c (aa v))):bg PR (n+1) R (.c s) (bz I C T++(G++X))=.k v (bz I C T++(G++X)):=
 gW (by unfold j9;rw[a];show(match(bz I C T++(G++X))[(Wb G)+k+17]? with|some (.c v)=>v|_=>ah)=_;rw[gk,b])
theorem Qk (a:R.c.lookup s=aa ((Wb G)+0+17)) (b:X[0]?=aa (.c (aa v))):bg PR (n+1) R (.c s) (bz I C T++(G++X))=.k v (bz I C T++(G++X)):=KW a b
theorem Ql (a:R.c.lookup s=aa ((Wb G)+1+17)) (b:X[1]?=aa (.c (aa v))):bg PR (n+1) R (.c s) (bz I C T++(G++X))=.k v (bz I C T++(G++X)):=KW a b
theorem Fp (a:(Wb σ)=k) (b:σ++[.d []]=J):bg PR (n+2) R (.d [] []) σ=.k (.l k) J:=by subst a b;rfl
theorem Bp (h:ie PR n R es σ=.k us U) (a:bV us=ai) (b:(Wb U)=k) (c:U++[.l us]=J):bg PR (n+1) R (.s es) σ=.k (.l k) J:=by subst b c;exact jQ h a
end
end
open _root_ renaming Mine.Tactic.Row.casesOn->kZ
local macro_rules | `(tactic| lcg_sub) => return mx [] "@bL @bu @oM @cG @S' @P_ @Qc |7 ~ @aO ~ =bB ~ _ `b9 _ _ 2Term.syntheticHole 1 2Term.app 2refine ~ &tacticRepeat_ =bB _ 1assumption |2 ~ ;2 =rfl |3 ;2 @Qk ~ =rfl =rfl ;3 @Ql ~ =rfl =rfl ;3 @cC ~ =rfl ;2 @UA ~ =bB _ 1assumption |2 ~ =rfl |2 ;2 @Bp @Fp @UE @Fi @S4 @Fh @IQ @gI @UD @iY @Qb @fi @dQ @mC @dB @KG @eu @oi @bU @jX @gM @nF @aS @sQ @jQ @O' @fX @oX @lG @Ff @A_ @ef @IM @u_ @KC @KA @lu @tQ @xV @Fg @IL @mD @IW @KL @Ba |45 ~ @KH ~ =rfl ;2 @KJ ~ =rfl ;2 @KH ~ _ 1assumption ~ ;2 @KJ ~ _ 1assumption ~ ;2 ?cg ~ _ _ `transparency _ _ `instances 2Term.dotIdent _ 5valConfigItem 1configItem 1 1optConfig 0 0 0 5applyAssumption ;2 ?fp ?eJ ?cS ?bg |4 ~ _ 1assumption ~ ?eJ ~ _ 1assumption ;2 |2 ;2 @U' ~ &failIfSuccess &failIfSuccess ?cg ?dw ?er ?ie ?tJ ?rm ?mw ?fp ?eJ ?cS ?bg |11 ~ &failIfSuccess _ 1assumption ~ @IR _ 1assumption ~ ;2 @IU _ 1assumption ~ ;2 _ 1.PySem.W.tacticKpf_c =rfl |5 ;3 |14 &repeat'"
section
open PySem
section
variable {I:ae aq} {C:aq} {T:ae Row} {G:St} {fr:AF} {n:af}
theorem Bq (r:Row) (a:(Wb T)<=1000000):cg PR (n+20) "TypeTable.put" [] [.l 6,dA r] (bz I C T++G)=.k (.i (eZ T r).1) (bz I C (eZ T r).2++G):=by
 unfold eZ;cases h:rfind T r 0 with
 |some k=>
  have b:=Nc (I:=I) (C:=C) (G:=G) h;have c:=Qi (I:=I) (C:=C) (G:=G) h;apply bX (bs:=[("self",.l 6),("row",dA r)]) uF rfl
  lcg_sub
 |none=>
  have b:=Nd (I:=I) (C:=C) (G:=G) h;have c:=Nf (I:=I) (C:=C) (G:=G) a;have d:=KV (I:=I) (C:=C) (G:=G) r a;have e:=Qj (I:=I) (C:=C) (G:=G) h a;apply bX (bs:=[("self",.l 6),("row",dA r)]) uF rfl
  lcg_sub
end
section
variable {I:ae aq} {C:aq} {T:ae Row} {G:St} {fr:AF} {n:af} {i:aq} {r:Row}
noncomputable def bQ (T:ae Row) (i:aq):ae aq:=if i=2 then[]else match T[i.toNat]? with|some (.u ts)=>ts|_=>[i]
theorem nI (b:0<=i) (a:T[i.toNat]?=aa r) (c:(Wb T)<=1000000):du (.l 7) (.i i) (bz I C T++G)=aa (dA r):=by have d:=(aP.mp a).1;show(if 0<=i/\i<((T.map dA).length:af)/\cP i=ai then(T.map dA)[i.toNat]? else ah)=_;rw[aF (dy b (by rw[az];omega) (by unfold cP;exact aI (by omega))),bE,a];rfl
theorem wN (b:0<=i) (a:T[i.toNat]?=aa r) (c:(Wb T)<=1000000):cg PR (n+20) "parts_of" [] [.l 6,.i i] (bz I C T++G)=.k (.t ((bQ T i).map .i)) (bz I C T++G):=by
 have d:=nI (I:=I) (C:=C) (G:=G) b a c;unfold bQ;by_cases h:i=2
 ·rw[aF h];apply bX (bs:=[("tab",.l 6),("t",.i i)]) Bj rfl
  lcg_sub
 ·rw[aG h,a];clear a;cases r
  all_goals(apply bX (bs:=[("tab",.l 6),("t",.i i)]) Bj rfl;lcg_sub)
end
section
variable {nu:ae aq} {at_:aq} {T:ae Row} {G X:St} {fr:AF} {n:af} {i:aq} {r:Row} {C:St} {g:af} {l:ae aq}
noncomputable def dT (l:ae aq):ae (AV×AV):=l.map λk=>(.i k,.i 1)
theorem Fq (l:ae aq) (x:aq):d_ (dT l) (.i x)=ai:=by show(ai&&(dT l).all _)=ai;rw[jA];induction l with|nil=>rfl|cons k l a=>show(ai&&_)=ai;rw[jA];exact a
theorem KY (x:aq):∀l:ae aq,(iX (dT l) (.i x)).isSome=decide (x∈l):=by
 intro b;induction b with
 |nil=>exact rfl
 |cons k l c=>
  have a:=c;unfold iX at a⊢;rw[jw]at a⊢;show(B0 _ ((AV.i k,AV.i 1)::dT l)).isSome=_;rw[ik];by_cases h:k=x
  ·rw[show dO (AV.i k) (AV.i x)=ai from aI h];clear a;refine dq h ?_;simp
  ·rw[show dO (AV.i k) (AV.i x)=aD from aX h];show(B0 _ (dT l)).isSome=_;rw[a];simp[fR h]
theorem pY (a:C[g]?=aa (.d (dT l))) (x:aq):dG .In (.i x) (.l g) C=aa (decide (x∈l)):=by show(match C[g]? with|some (.d es)=>if d_ es (.i x)=ai then aa (iX es (.i x)).isSome else ah|some (.l vs)=>_|_=>_)=_;rw[a];show(if d_ (dT l) (.i x)=ai then aa (iX (dT l) (.i x)).isSome else ah)=_;rw[aF (Fq l x),KY]
theorem KZ (a:C[g]?=aa (.d (dT l))) (x:aq):dG .NotIn (.i x) (.l g) C=aa (!decide (x∈l)):=by show(Es C (.i x) (.l g)).map (!·)=_;rw[show Es C (.i x) (.l g)=_ from pY a x];rfl
noncomputable def Br:aq->aq->bD
 |.ofNat a,.ofNat b=>gy a b
 |.negSucc a,.negSucc b=>gy a b
 |_,_=>aD
theorem yM (a b:aq):Br a b=ai↔a=b:=by
 induction a using zp with
 |ofNat m=>induction b using zp with|ofNat n=>exact⟨λh=>aU Int.ofNat (pI h),λh=>Int.ofNat.inj h▸Gp m⟩|negSucc n=>exact⟨(λh=>nomatch h),(λh=>nomatch h)⟩
 |negSucc m=>induction b using zp with|ofNat n=>exact⟨(λh=>nomatch h),(λh=>nomatch h)⟩|negSucc n=>exact⟨λh=>aU Int.negSucc (pI h),λh=>Int.negSucc.inj h▸Gp m⟩
noncomputable def ji:ae aq->aq->ae aq
 |[],x=>[x]
 |k::l,x=>bif Br k x then k::l else k::ji l x
theorem o5 (x:aq) (l:ae aq):ji l x=if x∈l then l else l++[x]:=by
 induction l with
 |nil=>rfl
 |cons k l a=>
  show(bif Br k x then k::l else k::ji l x)=_;by_cases h:k=x
  ·rw[(yM k x).mpr h,aF (h▸aH)];rfl
  ·rw[kz.mpr λq=>h ((yM k x).mp q),a];show k::_=_;by_cases q:x∈l
   ·rw[aF q,aF (aK _ q)]
   ·rw[aG q,aG λm=>(bw.mp m).elim (λe=>h e.symm) q];rfl
theorem Ng (x:aq):∀l:ae aq,oF (.i x) (.i 1) (dT l)=dT (ji l x):=by
 intro a;induction a with
 |nil=>exact rfl
 |cons k l b=>
  show(if decide (k=x)=ai then _ else _)=_;by_cases h:k=x
  ·rw[aF (aI h)];rw[o5,aF (by rw[h];exact aH)];rfl
  ·rw[aG (by simp[h])];show _::oF (.i x) (.i 1) (dT l)=_;rw[b];rw[o5,o5];by_cases q:x∈l
   ·rw[aF q,aF (aK _ q)];rfl
   ·rw[aG q,aG (by simp[q,fR h])];rfl
theorem Cz (a:C[g]?=aa (.d (dT l))) (x:aq) (b:(Wb l)<=100000):l9 g (.i x) (.i 1) C=.k () (C.set g (.d (dT (ji l x)))):=by show(match C[g]? with|some (.d es)=>_|_=>_)=_;rw[a];show(if(d_ (dT l) (.i x)&&bV (dT l))=ai then _ else _)=_;rw[aF (by rw[Fq];unfold bV dT;rw[az];exact aI (dI b #[0])),Ng]
noncomputable def pZ (l:ae aq):aq:=if 0∈l then 0 else if 13∈l then 13 else if 1∈l then 1 else-1
theorem Tf (a:C[g]?=aa (.d (dT l))):cg PR (n+20) "top_of" [] [.l g] C=.k (.i (pZ l)) C:=by
 have b:=pY a 0;have c:=pY a 13;have e:=pY a 1;unfold pZ;by_cases h0:(0:aq)∈l<;>by_cases f:(13:aq)∈l<;>by_cases h2:(1:aq)∈l
 all_goals
  simp only[h0,f,h2,decide_true,Gq,if_true,qZ]at b c e⊢;apply bX (bs:=[("got",.l g)]) Na rfl
  lcg_sub
end
section
variable {J:ae aq} {C:aq} {T:ae Row} {G X:St} {fr:AF} {n:af} {i:aq} {r:Row} {I:St} {g:af} {l:ae aq}
noncomputable def kd:Row->aq
 |.k _=>1|.b ..=>2|.s ..=>3|.n ..=>4|.e _=>5|.x _=>5|.u _=>6|.o=>8|.p _=>10|.y _=>14|.t ..=>18
theorem xW (r:Row):du (dA r) (.i 0) I=aa (.i (kd r)):=by cases r<;>rfl
noncomputable def xX:Row->aq
 |.s ..=>6|.t ..=>6|.n ..=>7|.e _=>7|.x _=>6|_=>-1
theorem Nh (r:Row):cg PR (n+20) "whole_of_row" [] [dA r] I=.k (.i (xX r)) I:=by
 have gen:∀r,kd r≠3->kd r≠18->kd r≠4->kd r≠5->cg PR (n+20) "whole_of_row" [] [dA r] I=.k (.i (-1)) I:=λr a b d f=>by
  have c:=xW (I:=I) r;apply bX vL rfl
  lcg_sub
 cases r
 case s|t|n|e|x=>(apply bX vL rfl;lcg_sub)
 all_goals exact gen _ (by simp[kd]) (by simp[kd]) (by simp[kd]) (by simp[kd])
theorem K0 (a:0<=i) (b:T[i.toNat]?=aa r) (d:(Wb T)<=1000000):cg PR (n+20) "kind_of" [] [.l 6,.i i] (bz J C T++G)=.k (.i (kd r)) (bz J C T++G):=by
 have c:=nI (I:=J) (C:=C) (G:=G) a b d;have e:=xW (I:=bz J C T++G) r;apply bX KQ rfl
 lcg_sub
theorem K2 (a:0<=i) (b:T[i.toNat]?=aa r) (d:(Wb T)<=1000000):cg PR (n+20) "TypeTable.row" [] [.l 6,.i i] (bz J C T++G)=.k (dA r) (bz J C T++G):=by
 have c:=nI (I:=J) (C:=C) (G:=G) a b d;apply bX Bi rfl
 lcg_sub
theorem Ni {v:AV}:cg PR (n+20) "Thin.force" [] [.l 16,v] I=.k v I:=by
 apply bX Fo rfl
 lcg_sub
end
section
variable {I:ae aq} {C:aq} {T:ae Row} {G X:St} {fr:AF} {n:af} {i:aq} {r:Row} {J:St} {g:af} {l:ae aq}
theorem GO (m:aq) (a:(Wb T)<=1000000):cg PR (n+40) "num_type" [] [.l 6,.i m] (bz I C T++G)=.k (.i (eZ T (.n m 0)).1) (bz I C (eZ T (.n m 0)).2++G):=by
 have c:∀n,cg PR (n+20) "TypeTable.put" [] [.l 6,.t [.i 4,.i m,.i 0]] _=_:=λn=>Bq (n:=n) (I:=I) (C:=C) (G:=G) (.n m 0) a;apply bX (bs:=[("tab",.l 6),("n",.i m),("fresh",.i 0)]) I6 rfl
 lcg_sub
theorem Fs (s:ae af) (a:(Wb T)<=1000000):cg PR (n+40) "str_type" [] [.l 6,.s s] (bz I C T++G)=.k (.i (eZ T (.s s 0)).1) (bz I C (eZ T (.s s 0)).2++G):=by
 have c:∀n,cg PR (n+20) "TypeTable.put" [] [.l 6,.t [.i 3,.s s,.i 0]] _=_:=λn=>Bq (n:=n) (I:=I) (C:=C) (G:=G) (.s s 0) a;apply bX (bs:=[("tab",.l 6),("text",.s s),("fresh",.i 0)]) I5 rfl
 lcg_sub
noncomputable def oj (T:ae Row) (r:Row):aq:=match rfind T r 0 with|some k=>k|none=>-1
theorem Qm (r:Row):jg "dict.get" (.l 8) [dA r,.i (-1)] (bz I C T++G)=.k (.i (oj T r)) (bz I C T++G):=by show(if d_ (m6 T 0) (dA r)=ai then R.k ((iX (m6 T 0) (dA r)).getD (.i (-1))) _ else _)=_;rw[aF (wM T r 0),wL];unfold oj;cases rfind T r 0<;>rfl
noncomputable def uG (T:ae Row):Row->aq
 |.b v f=>if f=1 then oj T (.b v 0)else-1
 |.s s f=>if f=1 then oj T (.s s 0)else-1
 |.n n f=>if f=1 then oj T (.n n 0)else-1
 |.e f=>if f=1 then oj T (.e 0)else-1
 |.x f=>if f=1 then oj T (.x 0)else-1
 |_=>-1
theorem tR {q:Row} {f:aq} {xs:ae AV} {b:bD} (j:0<=i) (m:T[i.toNat]?=aa r) (o:(Wb T)<=1000000) (a:∀J,dG .In (.i (kd r)) (.t [.i 2,.i 3,.i 4,.i 5,.i 8]) J=aa b)
  (d:∀J,du (dA r) (.i (-1)) J=aa (.i f)) (e:∀J,slice (dA r) ah (aa (.i (-1))) J=.k (.t xs) J) (g:∀J,binop .Add (.t xs) (.t [.i 0]) J=.k (dA q) J):
  cg PR (n+20) "regular_twin" [] [.l 6,.i i] (bz I C T++G)=.k (.i (if b=ai/\f=1 then oj T q else-1)) (bz I C T++G):=by
 have c:=nI (I:=I) (C:=C) (G:=G) j m o;have p:=xW (I:=bz I C T++G) r;have s:=Qm (I:=I) (C:=C) (G:=G) (T:=T) q;replace a:=a (bz I C T++G);replace d:=d (bz I C T++G);replace e:=e (bz I C T++G);replace g:=g (bz I C T++G);induction b using b_ with
 |false=>
  rw[aG (by simp)];apply bX (bs:=[("tab",.l 6),("t",.i i)]) ma rfl
  lcg_sub
 |true=>
  by_cases h:f=1
  ·rw[aF ⟨rfl,h⟩];apply bX (bs:=[("tab",.l 6),("t",.i i)]) ma rfl
   lcg_sub
  ·rw[aG (λq=>h q.2)];apply bX (bs:=[("tab",.l 6),("t",.i i)]) ma rfl
   lcg_sub
theorem Qn (g:0<=i) (d:T[i.toNat]?=aa r) (j:(Wb T)<=1000000):cg PR (n+20) "regular_twin" [] [.l 6,.i i] (bz I C T++G)=.k (.i (uG T r)) (bz I C T++G):=by
 have gen:∀(r:Row),T[i.toNat]?=aa r->(∀J,dG .In (.i (kd r)) (.t [.i 2,.i 3,.i 4,.i 5,.i 8]) J=aa aD)->cg PR (n+20) "regular_twin" [] [.l 6,.i i] (bz I C T++G)=.k (.i (-1)) (bz I C T++G):=λr d m=>by
  have c:=nI (I:=I) (C:=C) (G:=G) g d j;have p:=xW (I:=bz I C T++G) r;replace m:=m (bz I C T++G);apply bX (bs:=[("tab",.l 6),("t",.i i)]) ma rfl
  lcg_sub
 have one:∀{x:aq} {f:aq} {y:aq},cg PR (n+20) "regular_twin" [] [.l 6,.i i] (bz I C T++G)=.k (.i (if ai=ai/\f=1 then x else y)) (bz I C T++G)->cg PR (n+20) "regular_twin" [] [.l 6,.i i] (bz I C T++G)=.k (.i (if f=1 then x else y)) (bz I C T++G):=λh=>by simpa using h
 induction r using kZ with
 |b v f=>exact one (tR (q:=.b v 0) g d j (λa=>rfl) (λa=>rfl) (λa=>rfl) λa=>rfl)
 |s v f=>exact one (tR (q:=.s v 0) g d j (λa=>rfl) (λa=>rfl) (λa=>rfl) λa=>rfl)
 |n v f=>exact one (tR (q:=.n v 0) g d j (λa=>rfl) (λa=>rfl) (λa=>rfl) λa=>rfl)
 |e f=>exact one (tR (q:=.e 0) g d j (λa=>rfl) (λa=>rfl) (λa=>rfl) λa=>rfl)
 |x f=>exact one (tR (q:=.x 0) g d j (λa=>rfl) (λa=>rfl) (λa=>rfl) λa=>rfl)
 |o=>
  have c:=nI (I:=I) (C:=C) (G:=G) g d j;apply bX (bs:=[("tab",.l 6),("t",.i i)]) ma rfl
  lcg_sub
 |_=>exact gen _ d (λa=>rfl)
noncomputable def Th (x:aq) (f:aq->bD):bD:=Int.rec (λn=>f (.ofNat n)) (λn=>f (.negSucc n)) x
theorem K3 (x:aq) (f:aq->bD):Th x f=f x:=by induction x using Int.rec<;>rfl
noncomputable def kR (T:ae Row) (l:ae aq) (r:Row):bD:=Th (uG T r) λx=>Th (xX r) λy=>!decide (x∈l)&&!decide (y∈l)
theorem sR (T:ae Row) (l:ae aq) (r:Row):kR T l r=(!decide (uG T r∈l)&&!decide (xX r∈l)):=(K3 _ _).trans (K3 _ _)
theorem Nj (a:0<=i) (e:T[i.toNat]?=aa r) (f:(Wb T)<=1000000) (j:(bz I C T++G)[g]?=aa (.d (dT l))):
  cg PR (n+40) "stays_beside" [] [.l 6,.l g,.i i] (bz I C T++G)=.k (.b (kR T l r)) (bz I C T++G):=by
 have c:=nI (I:=I) (C:=C) (G:=G) a e f;have o:=λn=>Qn (n:=n) (I:=I) (C:=C) (G:=G) a e f;have p:=λn=>Nh (n:=n) (I:=bz I C T++G) r;have m:=pY j (uG T r);have q:=KZ j (xX r);rw[sR];by_cases h:uG T r∈l
 ·rw[aI h]at m⊢;apply bX (bs:=[("tab",.l 6),("got",.l g),("t",.i i)]) vM rfl
  lcg_sub
 ·rw[aX h]at m⊢;apply bX (bs:=[("tab",.l 6),("got",.l g),("t",.i i)]) vM rfl
  lcg_sub
noncomputable def df (l:ae aq):ae aq:=if(8∈l\/14∈l)/\(9∈l\/15∈l)then ji (ji l 8) 9 else l
theorem qP (l:ae aq) (x:aq):(ji l x).length<=(Wb l)+1:=by rw[o5];split<;>simp
theorem Qo (a:J[g]?=aa (.d (dT l))) (i:(Wb l)<=10000):cg PR (n+20) "join_bools" [] [.l g] J=.k .n (if(8∈l\/14∈l)/\(9∈l\/15∈l)then J.set g (.d (dT (df l)))else J):=by
 have j:=pY a 8;have b:=pY a 14;have m:=pY a 9;have c:=pY a 15;have p1:=Cz a 8 #[132,i];have e:(J.set g (.d (dT (ji l 8))))[g]?=aa (.d (dT (ji l 8))):=by rw[vg (aP.mp a).1]
 have o:=Cz e 9 (by have:=qP l 8;exact#["8fapN3<8PNW>T6Co=m7dE",i,this]);rw[List.set_set]at o;unfold df;by_cases p:(8:aq)∈l<;>by_cases f:(14:aq)∈l<;>by_cases q:(9:aq)∈l<;>by_cases h:(15:aq)∈l
 all_goals
  simp only[p,f,q,h,decide_true,Gq,if_true,qZ,true_or,or_true,or_self,and_self,Al,true_and,and_false,false_and,jM,false_or]at j b m c⊢;apply bX (bs:=[("got",.l g)]) Fm rfl
  lcg_sub
end
end
section
set_option genInjectivity true
open PySem
section
variable {J:ae aq} {I:aq} {T:ae Row} {G X:St} {fr:AF} {n:af} {i:aq} {r:Row} {R:St} {g k m:af} {l:ae aq} {s:aC} {v:AV}
theorem Nk (a:X[k]?=aa (.d (dT l))) (x:aq) (b:(Wb l)<=100000):l9 ((Wb G)+k+17) (.i x) (.i 1) (bz J I T++(G++X))=.k () (bz J I T++(G++X.set k (.d (dT (ji l x))))):=by rw[Cz ((gk k).trans a) x b,sk]
theorem jP {α:Type} {vs:ae α} (h:(Wb vs)<=1000000):bV vs=ai:=aI (dI h #[0])
theorem Ja:∀l:ae aq,vp (l.map .i)=aa l:=by
 intro a;induction a with
 |nil=>exact rfl
 |cons x l b=>exact by show(vp (l.map .i)).map _=_;rw[b];rfl
theorem DU (l:ae aq):jG (l.map .i)=aa ((fF (λa b=>decide (a<b)) l).map .i):=by unfold jG;rw[Ja]
noncomputable abbrev jj (l:ae aq):ae aq:=fF (λa b=>decide (a<b)) l
theorem Nl (l:ae aq):(dT l).map lU=l.map .i:=by unfold dT;rw[iA];rfl
theorem GP (a:X[k]?=aa (.d (dT l))) (c:(Wb l)<=100000) (e:X.length=m):builtin "sorted" [.l ((Wb G)+k+17)] (bz J I T++(G++X))=.k (.l ((Wb G)+m+17)) (bz J I T++(G++(X++[.l ((jj l).map .i)]))):=by refine dH e ?_;show(match(bz J I T++(G++X))[(Wb G)+k+17]? with|some (.l vs)=>_|some (.d es)=>(if bV es=ai then(match jG (es.map lU)with|some ws=>alloc (bz J I T++(G++X)) (.l ws)|none=>.b)else .b)|_=>_)=_;rw[gk,a];show(if bV (dT l)=ai then(match jG ((dT l).map lU)with|some ws=>alloc (bz J I T++(G++X)) (.l ws)|none=>.b)else .b)=_;rw[aF (by unfold bV dT;rw[az];exact aI (dI c #[0])),Nl,DU,<-ak,<-lk];rfl
variable {C:ae AV}
theorem Eb (a:X[k]?=aa (.l C)) (b:(Wb C)<=1000000) (v:AV):li ((Wb G)+k+17) v (bz J I T++(G++X))=.k () (bz J I T++(G++X.set k (.l (C++[v])))):=by show(match(bz J I T++(G++X))[(Wb G)+k+17]? with|some (.l C)=>_|_=>_)=_;rw[gk,a,<-sk];show(if bV C=ai then _ else _)=_;rw[aF (jP b)]
theorem K4 (a:X[k]?=aa (.l C)) (b:(Wb C)<=1000000):items (.l ((Wb G)+k+17)) (bz J I T++(G++X))=aa (C,aa ((Wb G)+k+17)):=by show(match(bz J I T++(G++X))[(Wb G)+k+17]? with|some (.l C)=>_|_=>_)=_;rw[gk,a];show(if bV C=ai then _ else _)=_;rw[aF (jP b)]
mutual
theorem Ft:∀v:AV,dO v v=ai
 |.n=>rfl
 |.b b=>by cases b<;>rfl
 |.i i=>aI rfl
 |.s s=>aI rfl
 |.t C=>xY C
 |.l i=>aI rfl
 |.r a b=>by show(decide (a=a)&&decide (b=b))=ai;rw[aI rfl,aI rfl];rfl
 |.o f cs=>by show(decide (f=f)&&decide (cs=cs))=ai;rw[aI rfl,aI rfl];rfl
 |.f i=>aI rfl
 |.c i=>aI rfl
 |.u i=>aI rfl
 |.y i=>aI rfl
theorem xY:∀v:ae AV,iW v v=ai
 |[]=>rfl
 |v::C=>by show(dO v v&&iW C C)=ai;rw[Ft v,xY C];rfl
end
variable {C:ae AV}
theorem fg (h:R[g]?=aa (.l C)):dU (aa g) C R=ai:=by show(match R[g]? with|some (.l ws)=>iW ws C|_=>aD)=ai;rw[h];exact xY C
theorem Bs (a:X[k]?=aa (.l C)):dU (aa ((Wb G)+k+17)) C (bz J I T++(G++X))=ai:=fg ((gk k).trans a)
end
end
section
open PySem
section
variable {I:ae aq} {C:aq} {T:ae Row} {G X:St} {J:AF} {n:af} {i:aq} {r:Row} {R:St} {g k m:af} {l:ae aq} {s:aC} {v:AV}
theorem Fu {tl pa:af} {cs:ae (aC×af)} (b:cs=[("tab",(Wb G)+0+17),("got",(Wb G)+1+17)]) {c0:AO} (all:ae AV):∀(f:ae aq) (l:ae aq) (vars:ae (aC×AV)),(Wb l)+(Wb f)<=100000->
  ∃a,eJ ah all (λv J R=>dw PR (n+20) [.s (.c "got") (.v "part") (lI 1)] {J with v:=bA "part" v J.v} R) (f.map .i) ⟨vars,cs⟩ (bz I C T++(G++[c0,.c (aa (.l ((Wb G)+2+17))),.d (dT l)]))=
   .k (.n,⟨a,cs⟩) (bz I C T++(G++[c0,.c (aa (.l ((Wb G)+2+17))),.d (dT (f.foldl ji l))]))
 |[],l,vars,_=>⟨vars,iY rfl⟩
 |q::f,l,vars,h=>by
  have g:=qP l q;rw[aQ]at h;refine ck (Fu b all f (ji l q) (bA "part" (.i q) vars) #[31,h,g] (tl:=tl) (pa:=pa) (c0:=c0)) λa e=>?_;refine⟨a,?_⟩;subst b;have j:=Nk (J:=I) (I:=C) (T:=T) (G:=G) (k:=2) (X:=[c0,.c (aa (.l ((Wb G)+2+17))),.d (dT l)]) rfl q #[48,h];apply fZ rfl
  ·lcg_sub
  ·exact e
end
section
variable {I:ae aq} {C:aq} {T:ae Row} {G X:St} {J:AF} {n:af} {i:aq} {r:Row} {R:St} {g k m p:af} {l:ae aq} {s:aC} {v:AV} {o:AO}
theorem gG (h:G[p]?=aa o):(bz I C T++(G++X))[p+17]?=aa o:=by rw[bM (aP.mp h).1,h]
theorem Nm {cs:ae (aC×af)} (b:cs=[("tab",(Wb G)+0+17),("got",(Wb G)+1+17)]) {all:ae AV} (u:G[p]?=aa (.l all)) (x:(Wb T)<=1000000):∀(ts:ae aq) (l:ae aq) (vars:ae (aC×AV)),
  (∀t∈ts,0<=t/\∃r,T[t.toNat]?=aa r)->(Wb l)+(ts.flatMap (bQ T)).length<=100000->
  ∃a,eJ (aa (p+17)) all (λv J R=>dw PR (n+56) [.f (.v "part") (.f (.g "parts_of") [.c "tab",.v "t"]) [.s (.c "got") (.v "part") (lI 1)]] {J with v:=bA "t" v J.v} R) (ts.map .i) ⟨vars,cs⟩
   (bz I C T++(G++[.c (aa (.l 6)),.c (aa (.l ((Wb G)+2+17))),.d (dT l)]))=
   .k (.n,⟨a,cs⟩) (bz I C T++(G++[.c (aa (.l 6)),.c (aa (.l ((Wb G)+2+17))),.d (dT ((ts.flatMap (bQ T)).foldl ji l))])):=by
 intro m;induction m with
 |nil=>exactλl vars y y=>⟨vars,iY (fg (gG u))⟩
 |cons t ts o=>
  intro l vars w h;refine R5 (w t aH) λz r A=>?_;rw[jx,ar]at h;have e:∀(j l:ae aq),(j.foldl ji l).length<=(Wb l)+(Wb j):=λj=>by induction j with|nil=>intro l;exact bf _|cons q j B=>intro l;have:=B (ji l q);have:=qP l q;rw[kh,aQ];exact#[71,(by assumption),this]
  refine ck (Fu (n:=n+34) (I:=I) (C:=C) (T:=T) b (tl:=0) (pa:=0) (c0:=.c (aa (.l 6))) ((bQ T t).map .i) (bQ T t) l (bA "t" (.i t) vars) #["M)SfF9?y7ACC<&lyXTHa",h]) λv1 D=>?_;refine ck (o ((bQ T t).foldl ji l) v1 (λt E=>w t (aK _ E)) (by have:=e (bQ T t) l;exact#["1_gDL.f!D9BP_l=h+Xe.T,h'HI",h,this])) λF H=>?_;refine⟨F,?_⟩;rw[jx,List.foldl_append];have L:=λn=>wN (n:=n) (I:=I) (C:=C) (G:=G++[.c (aa (.l 6)),.c (aa (.l ((Wb G)+2+17))),.d (dT l)]) z A x;have K:items (.t ((bQ T t).map .i)) (bz I C T++(G++[.c (aa (.l 6)),.c (aa (.l ((Wb G)+2+17))),.d (dT l)]))=aa ((bQ T t).map .i,ah):=by show(if bV _=ai then _ else _)=_;rw[aF (jP (by rw[az];exact#["JCVW*u:<qu4h`{du)ko",h]))]
  subst b;refine fZ (fg (gG u)) (IQ (gI ?_ K D) (Fh cG)) H
  lcg_sub
end
section
variable {R:ae aq} {I:aq} {T:ae Row} {G X X':St} {fr:AF} {n:af} {i:aq} {r:Row} {J σ':St} {g k m p:af} {l:ae aq} {s:aC} {v:AV} {o:AO} {e:IE}
variable {C:ae AV} {U:Type} {y:aq}
theorem Nn (lt:U->U->bD) (x:U):∀l:ae U,(jW lt x l).Perm (x::l):=by
 intro a;induction a with
 |nil=>exact .refl _
 |cons y l b=>
  unfold jW;split
  ·exact .refl _
  ·exact((b).cons y).trans (.swap x y l)
theorem K5 (lt:U->U->bD) (l:ae U):(fF lt l).Perm l:=by
 have h:∀(l a:ae U),(l.foldl (λa x=>jW lt x a) a).Perm (a++l):=λl=>by induction l with|nil=>intro a;rw[aJ];exact .refl _|cons x l b=>intro a;exact(b _).trans (((Nn lt x a).append_right l).trans o9.symm)
 exact h l []
theorem Ti {a b:aC} {bs:ae (aC×AV)}:j8 [a,b] bs (bz R I T++G)=([(a,(Wb G)+0+17),(b,(Wb G)+1+17)],bz R I T++(G++[.c (bs.lookup a),.c (bs.lookup b)])):=by show([(a,(bz R I T++G).length),(b,((bz R I T++G)++[AO.c (bs.lookup a)]).length)],((bz R I T++G)++[AO.c (bs.lookup a)])++[AO.c (bs.lookup b)])=_;rw[aj,aj,aj,lk];rfl
theorem Qp {q:au AV} (h:bg PR n fr e J=.k v (bz R I T++(G++X))) (a:fr.c.lookup s=aa ((Wb G)+k+17)) (b:X[k]?=aa (.c q)) (d:X.set k (.c (aa v))=X'):
  cS PR (n+1) (.c s e) fr J=.k (.n,fr) (bz R I T++(G++X')):=by
 refine dH d ?_;rw[KD h a ((gk k).trans b),sk]
theorem No {c0 c1:AO} (a:(Wb l)<=10000):cg PR (n+20) "join_bools" [] [.l ((Wb G)+2+17)] (bz R I T++(G++[c0,c1,.d (dT l)]))=.k .n (bz R I T++(G++[c0,c1,.d (dT (df l))])):=by
 rw[Qo ((gk 2).trans rfl) a];by_cases h:(8∈l\/14∈l)/\(9∈l\/15∈l)
 ·rw[aF h,sk];rfl
 ·rw[aG h];unfold df;rw[aG h]
noncomputable def cL (T:ae Row) (q:aq):Row:=(T[q.toNat]?).getD .o
def je (T:ae Row) (q:aq):Prop:=0<=q/\q.toNat<(Wb T)
theorem je.at {q:aq} (h:je T q):T[q.toNat]?=aa (cL T q):=by unfold cL;rw[aR h.2];rfl
noncomputable def gH (T:ae Row) (l:ae aq):ae aq:=(jj l).filter λq=>kR T l (cL T q)
noncomputable def iL (T:ae Row) (ts:ae aq):ae aq:=(ts.flatMap (bQ T)).foldl ji []
noncomputable def cH (T:ae Row) (ts:ae aq):aq×ae Row:=if 0<=pZ (iL T ts)then(pZ (iL T ts),T)else match gH T (df (iL T ts))with|[]=>(2,T)|[x]=>(x,T)|_=>((eZ T (.u (gH T (df (iL T ts))))).1,(eZ T (.u (gH T (df (iL T ts))))).2)
theorem zP {x:aq} (h:y∈ji l x):y∈l\/y=x:=by
 rw[o5]at h;split at h
 ·exact .inl h
 ·simpa using h
theorem Np:∀(a l:ae aq) {y:aq},y∈a.foldl ji l->y∈l\/y∈a:=by
 intro b;induction b with
 |nil=>exactλd d h=>.inl h
 |cons q a c=>
  intro l y h;rcases c (ji l q) h with h|h
  ·rcases zP h with h|rfl
   ·exact .inl h
   ·exact .inr aH
  ·exact .inr (aK _ h)
theorem wO:∀(a l:ae aq),(a.foldl ji l).length<=(Wb l)+(Wb a):=by
 intro b;induction b with
 |nil=>exactλd=>bf _
 |cons q a c=>exactλl=>by have:=c (ji l q);have:=qP l q;rw[kh,aQ];exact#[71,(by assumption),this]
theorem Nq (h:y∈df l):y∈l\/y=8\/y=9:=by
 unfold df at h;split at h
 ·rcases zP h with h|h
  ·rcases zP h with h|h
   ·exact .inl h
   ·exact .inr (.inl h)
  ·exact .inr (.inr h)
 ·exact .inl h
theorem Fv (l:ae aq):(df l).length<=(Wb l)+2:=by
 unfold df;split
 ·have:=qP (ji l 8) 9;have:=qP l 8;exact#["`%Za+hcKJi9W!1Rni",(by assumption),this]
 ·exact#["1jl;:!;"]
theorem mW (h:J[g]?=aa (.l C)) (a:(Wb C)<=1000000):builtin "len" [.l g] J=.k (.i (Wb C)) J:=by show(match J[g]? with|some (.l C)=>_|_=>_)=_;rw[h];show(if bV C=ai then _ else _)=_;rw[aF (jP a)]
theorem K6 (h:J[g]?=aa (.l C)) (a:(Wb C)<=1000000):truth (.l g) J=aa (!C.isEmpty):=by show(match J[g]? with|some (.l xs)=>_|_=>_)=_;rw[h];show(if bV C=ai then _ else _)=_;rw[aF (jP a)]
theorem CA (h:J[g]?=aa (.l C)) (a:(Wb C)<=1000000):kq "tuple" [.l g] J=.k (.t C) J:=by show(match J[g]? with|some (.l C)=>_|_=>_)=_;rw[h];show(if bV C=ai then _ else _)=_;rw[aF (jP a)]
theorem kK (h:J[g]?=aa (.l C)) {j:aq} (b:0<=j) (a:C[j.toNat]?=aa v) (c:(Wb C)<=1000000):du (.l g) (.i j) J=aa v:=by have e:=(aP.mp a).1;show(match J[g]? with|some (.l C)=>(if 0<=j/\j<(Wb C)/\cP j=ai then C[j.toNat]? else ah)|some (.d es)=>(if d_ es (.i j)=ai then iX es (.i j)else ah)|_=>ah)=_;rw[h];show(if 0<=j/\j<(Wb C)/\cP j=ai then C[j.toNat]? else ah)=_;rw[aF (dy b (by omega) (by unfold cP;exact aI (by omega))),a]
end
section
variable {I:ae aq} {C:aq} {T:ae Row} {G X:St} {n p:af} {l:ae aq}
theorem Qq {c1 c3:AO} {cs:ae (aC×af)} (s:cs=[("tab",(Wb G)+0+17),("got",(Wb G)+1+17)]) (t:c1=.c (aa (.l ((Wb G)+2+17)))) (x:(Wb T)<=1000000) {all:ae AV} (m:c3=.l all):∀(b a:ae aq),(∀q∈b,je T q)->(Wb a)+(Wb b)<=100000->
  fp (aa ((Wb G)+3+17)) all (Cu PR (n+50) cs "t" (.v "t") (.f (.g "stays_beside") [.c "tab",.c "got",.v "t"]) ((Wb G)+4+17)) (b.map .i) (bz I C T++(G++[.c (aa (.l 6)),c1,.d (dT l),c3,.l (a.map .i)]))=
   .k () (bz I C T++(G++[.c (aa (.l 6)),c1,.d (dT l),c3,.l ((a++b.filter λq=>kR T l (cL T q)).map .i)])):=by
 intro u;induction u with
 |nil=>intro a _ _;show(if dU _ _ _=ai then _ else _)=_;rw[aF (Bs (by rw[<-m];rfl)),List.filter_nil,aJ]
 |cons q b o=>
  intro a w r;rw[aQ]at r;have j:=w q aH;have z:=λn=>Nj (n:=n) (I:=I) (C:=C) (G:=G++[.c (aa (.l 6)),c1,.d (dT l),c3,.l (a.map .i)]) j.1 j.at x ((gk 2).trans rfl);have y:er PR (n+50) ⟨[("t",.i q)],cs⟩ (.f (.g "stays_beside") [.c "tab",.c "got",.v "t"]) (bz I C T++(G++[.c (aa (.l 6)),c1,.d (dT l),c3,.l (a.map .i)]))=.k (kR T l (cL T q)) (bz I C T++(G++[.c (aa (.l 6)),c1,.d (dT l),c3,.l (a.map .i)])):=by
   subst s t
   lcg_sub
  show(if dU _ _ _=ai then(R.bind (er _ _ _ _ _) _:R dt).bind _ else _)=_;rw[aF (Bs (by rw[<-m];rfl)),y];cases h:kR T l (cL T q)with|true=>have e:=o (a++[q]) (λq j=>w q (aK _ j)) (by rw[ar];simp;exact#[22,r]);rw[ui (p:=λq=>kR T l (cL T q)) h,show a++q::b.filter (λq=>kR T l (cL T q))=(a++[q])++b.filter (λq=>kR T l (cL T q))by rw[aj];rfl,<-e,dh];show(li _ _ _).bind _=_;rw[Eb rfl (by rw[az];exact#[17,r])];rfl|false=>have e:=o a (λq j=>w q (aK _ j)) #["M)SfF9?y7ACC=KRpQK~+",r];rw[uj (by rw[h];decide),<-e];rfl
end
section
variable {I:ae aq} {C:aq} {T:ae Row} {G X:St} {n p:af} {l:ae aq}
theorem Tj (k:ae aq) (a:(Wb T)<=1000000):cg PR (n+20) "TypeTable.put" [] [.l 6,.t [.i 6,.t (k.map .i)]] (bz I C T++G)=.k (.i (eZ T (.u k)).1) (bz I C (eZ T (.u k)).2++G):=Bq (.u k) a
theorem UG {α:Type} {P:Prop} (l:ae α) (a:l=[]->P) (b:∀x,l=[x]->P) (c:∀x y r,l=x::y::r->P):P:=by
 rcases l with _|⟨x,_|⟨y,r⟩⟩
 ·exact a rfl
 ·exact b x rfl
 ·exact c x y r rfl
noncomputable def Bt (T:ae Row) (k:ae aq):aq×ae Row:=match k with|[]=>(2,T)|[x]=>(x,T)|_=>(((eZ T (.u k)).1:aq),(eZ T (.u k)).2)
theorem zQ {ts:ae aq} (P:G[p]?=aa (.l (ts.map .i))) (Q:∀t∈ts,je T t) (hq:∀q∈ts.flatMap (bQ T),je T q) (hT:(Wb T)<=100000) (E:10<=(Wb T)) (S:(ts.flatMap (bQ T)).length<=400) (M:(Wb ts)<=100000) (U:(gH T (df (iL T ts))).length<=400):
  ∃X,cg PR (n+100) "union" [] [.l 6,.l (p+17)] (bz I C T++G)=.k (.i (cH T ts).1) (bz I C (cH T ts).2++(G++X)):=by
 have z:(Wb T)<=1000000:=#[2,hT]
 have J:=Ti (R:=I) (I:=C) (T:=T) (G:=G) (a:="tab") (b:="got") (bs:=[("tab",.l 6),("parts",.l (p+17))]);have K:cS PR (n+98) (.c "got" (.d [] [])) ⟨[("parts",.l (p+17))],[("tab",(Wb G)+0+17),("got",(Wb G)+1+17)]++[]⟩ (bz I C T++(G++[.c (aa (.l 6)),.c ah]))=.k (.n,⟨[("parts",.l (p+17))],[("tab",(Wb G)+0+17),("got",(Wb G)+1+17)]++[]⟩) (bz I C T++(G++[.c (aa (.l 6)),.c (aa (.l ((Wb G)+2+17))),.d (dT [])])):=
  Qp (Fp lk (ak _)) rfl rfl rfl
 refine ck (Nm (n:=n+40) (I:=I) (C:=C) (cs:=[("tab",(Wb G)+0+17),("got",(Wb G)+1+17)]++[]) rfl P z ts [] [("parts",.l (p+17))] (λt V=>⟨(Q t V).1,_,(Q t V).at⟩) (by rw[cR];exact#["D,ABJb.:>m3=s*hGU",S])) λv2 e2=>?_;have F:cS PR (n+97) (.f (.v "t") (.v "parts") [.f (.v "part") (.f (.g "parts_of") [.c "tab",.v "t"]) [.s (.c "got") (.v "part") (lI 1)]]) ⟨[("parts",.l (p+17))],[("tab",(Wb G)+0+17),("got",(Wb G)+1+17)]++[]⟩ (bz I C T++(G++[.c (aa (.l 6)),.c (aa (.l ((Wb G)+2+17))),.d (dT [])]))=
   .k (.n,⟨v2,[("tab",(Wb G)+0+17),("got",(Wb G)+1+17)]++[]⟩) (bz I C T++(G++[.c (aa (.l 6)),.c (aa (.l ((Wb G)+2+17))),.d (dT (iL T ts))])):=by
  refine gI (aO rfl) ?_ e2;show(match(bz I C T++(G++[.c (aa (.l 6)),.c (aa (.l ((Wb G)+2+17))),.d (dT [])]))[p+17]? with|some (.l vs)=>_|_=>_)=_;rw[gG P];show(if bV _=ai then _ else _)=_;rw[aF (jP (by rw[az];exact#[2,M]))]
 unfold cH;generalize w:iL T ts=j at F U⊢;have o:(Wb j)<=400:=by rw[<-w];have:=wO (ts.flatMap (bQ T)) [];rw[cR]at this;exact#["2^Ii3wQFWVd8k&)|5u7'",S,this]
 have N:∀q∈df j,je T q:=λq h=>by
  rcases Nq h with h|rfl|rfl
  ·rw[<-w]at h;rcases Np _ _ h with h|h
   ·cases h
   ·exact hq q h
  ·exact⟨by decide,by show 8<_;exact#["ONRm6I)I",E]⟩
  ·exact⟨by decide,by show 9<_;exact#["POO),T{Q",E]⟩
 have A:=Fv j;have W:=λn=>Tf (n:=n) (C:=bz I C T++(G++[.c (aa (.l 6)),.c (aa (.l ((Wb G)+2+17))),.d (dT j)])) ((gk 2).trans rfl);by_cases h0:0<=pZ j
 ·rw[aF h0];have H:∀σ,dG .GtE (.i (pZ j)) (.i 0) σ=aa ai:=λσ=>aU aa (aI h0);replace H:=H (bz I C T++(G++[.c (aa (.l 6)),.c (aa (.l ((Wb G)+2+17))),.d (dT j)]));refine⟨[.c (aa (.l 6)),.c (aa (.l ((Wb G)+2+17))),.d (dT j)],?_⟩;apply mU (bs:=[("tab",.l 6),("parts",.l (p+17))]) (bs':=[("parts",.l (p+17))]) yL rfl rfl J
  ·apply aT K;apply aT F
   lcg_sub
  ·rfl
 ·rw[aG h0];have H:∀σ,dG .GtE (.i (pZ j)) (.i 0) σ=aa aD:=λσ=>aU aa (aX h0);replace H:=H (bz I C T++(G++[.c (aa (.l 6)),.c (aa (.l ((Wb G)+2+17))),.d (dT j)]));have c3:=λn=>No (n:=n) (R:=I) (I:=C) (T:=T) (G:=G) (l:=j) (c0:=.c (aa (.l 6))) (c1:=.c (aa (.l ((Wb G)+2+17)))) #["9}=}bpB1`>RO1Hu",o];have c4:builtin "sorted" [.l ((Wb G)+2+17)] (bz I C T++(G++([.c (aa (.l 6)),.c (aa (.l ((Wb G)+2+17))),.d (dT (df j))]:St)))=.k (.l ((Wb G)+3+17)) (bz I C T++(G++([.c (aa (.l 6)),.c (aa (.l ((Wb G)+2+17))),.d (dT (df j)),.l ((jj (df j)).map .i)]:St))):=GP rfl #["8fapN3<B3s6L_No:?BeZw",o,A] rfl;have B:=K5 (λa b:aq=>decide (a<b)) (df j);have c5:items (.l ((Wb G)+3+17)) (bz I C T++(G++([.c (aa (.l 6)),.c (aa (.l ((Wb G)+2+17))),.d (dT (df j)),.l ((jj (df j)).map .i)]:St)))=aa ((jj (df j)).map .i,aa ((Wb G)+3+17)):=K4 (k:=3) rfl (by rw[az,B.length_eq];exact#["}+JR7WjH24<6K{i+lJ|oq",o,A]);have c6:=Qq (n:=n+41) (I:=I) (C:=C) (T:=T) (l:=df j) (cs:=[("tab",(Wb G)+0+17),("got",(Wb G)+1+17)]++[]) rfl (c1:=.c (aa (.l ((Wb G)+2+17)))) rfl z (c3:=.l ((jj (df j)).map .i)) rfl (jj (df j)) [] (λq h=>N q (B.mem_iff.mp h)) (by rw[B.length_eq,cR];exact#["1E~L%&`h|1}y=R}(mGdtRk=",o,A]);rw[eF,show List.map AV.i []=[]from rfl]at c6;have c7:(bz I C T++(G++([.c (aa (.l 6)),.c (aa (.l ((Wb G)+2+17))),.d (dT (df j)),.l ((jj (df j)).map .i)]:St))).length=(Wb G)+4+17:=lk;have c8:bz I C T++(G++([.c (aa (.l 6)),.c (aa (.l ((Wb G)+2+17))),.d (dT (df j)),.l ((jj (df j)).map .i)]:St))++[AO.l []]=bz I C T++(G++([.c (aa (.l 6)),.c (aa (.l ((Wb G)+2+17))),.d (dT (df j)),.l ((jj (df j)).map .i),.l []]:St)):=ak _;have L:(bz I C T++(G++[.c (aa (.l 6)),.c (aa (.l ((Wb G)+2+17))),.d (dT (df j)),.l ((jj (df j)).map .i),.l ((gH T (df j)).map .i)]))[(Wb G)+4+17]?=aa (.l ((gH T (df j)).map .i)):=(gk 4).trans rfl;have m:((gH T (df j)).map AV.i).length<=1000000:=by rw[az];exact#["BqvjZ}b~!ja^S`Ks",U]
  have D:=K6 L m;have Y:=mW L m;have d3:=CA L m;have d4:=λn=>Tj (n:=n) (I:=I) (C:=C) (G:=G++[.c (aa (.l 6)),.c (aa (.l ((Wb G)+2+17))),.d (dT (df j)),.l ((jj (df j)).map .i),.l ((gH T (df j)).map .i)]) (gH T (df j)) z;have Z:∀x,gH T (df j)=[x]->du (.l ((Wb G)+4+17)) (.i 0) (bz I C T++(G++[.c (aa (.l 6)),.c (aa (.l ((Wb G)+2+17))),.d (dT (df j)),.l ((jj (df j)).map .i),.l ((gH T (df j)).map .i)]))=aa (.i x):=λx h=>kK L (Int.le_refl 0) (by rw[h];rfl) m;have d6:bV ((gH T (df j)).map AV.i)=ai:=jP m;show∃X,cg _ _ _ _ _ _=R.k (AV.i (Bt T (gH T (df j))).1) (bz _ _ (Bt T (gH T (df j))).2++(G++X));rw[show gH T (df j)=(jj (df j)).filter λq=>kR T (df j) (cL T q)from rfl]at*;generalize O:(jj (df j)).filter (λq=>kR T (df j) (cL T q))=kept at*;refine⟨[.c (aa (.l 6)),.c (aa (.l ((Wb G)+2+17))),.d (dT (df j)),.l ((jj (df j)).map .i),.l (kept.map .i)],?_⟩;refine UG kept (λe=>?_) (λx e=>?_) (λx y r e=>?_)
  ·rw[show Bt T kept=(2,T)from e▸rfl];replace D:=D.trans (show aa (!(kept.map AV.i).isEmpty)=aa aD by rw[e];rfl);apply mU yL rfl rfl J
   ·apply aT K;apply aT F
    lcg_sub
   ·rfl
  ·rw[show Bt T kept=(x,T)from e▸rfl];replace D:=D.trans (show aa (!(kept.map AV.i).isEmpty)=aa ai by rw[e];rfl);rw[show(kept.map AV.i).length=1 by rw[e];rfl]at Y;replace Z:=Z x e;apply mU yL rfl rfl J
   ·apply aT K;apply aT F
    lcg_sub
   ·rfl
  ·rw[show Bt T kept=(((eZ T (.u kept)).1:aq),(eZ T (.u kept)).2)from e▸rfl];replace D:=D.trans (show aa (!(kept.map AV.i).isEmpty)=aa ai by rw[e];rfl);rw[az]at Y;have h1:((Wb kept):aq)≠1:=by rw[e,aQ,aQ];omega
   have h2:∀σ,dG .Gt (.i ((Wb kept):af)) (.i 400) σ=aa aD:=λσ=>aU aa (aX (by omega));replace h2:=h2 (bz I C T++(G++[.c (aa (.l 6)),.c (aa (.l ((Wb G)+2+17))),.d (dT (df j)),.l ((jj (df j)).map .i),.l (kept.map .i)]));apply mU (bs:=[("tab",.l 6),("parts",.l (p+17))]) (bs':=[("parts",.l (p+17))]) yL rfl rfl J
   ·apply aT K;apply aT F
    lcg_sub
   ·rfl
end
section
variable {nu:ae aq} {at_:aq} {T:ae Row} {G X X':St} {n:af} {i:aq} {r:Row} {I:St} {v w:AV} {C J:ae AV}
theorem Jb (h:(Wb C)<1000000):slice (.t (C++[v])) ah (aa (.i (-1))) I=.k (.t C) I:=by show(if bV (C++[v])=ai then R.k (AV.t (dZ (C++[v]) 0 ((-1:aq)+(C++[v]).length).toNat)) I else _)=_;rw[aF (jP (by rw[ar];exact h)),show((-1:aq)+(C++[v]).length).toNat=(Wb C)by rw[ar,bj];omega];unfold dZ;rw[List.take_left' rfl];rfl
theorem Jc (h:(Wb C)<1000000):slice (.t (v::C)) (aa (.i 1)) ah I=.k (.t C) I:=by show(if bV (v::C)=ai then R.k (AV.t (dZ (v::C) (min 1 (v::C).length) (v::C).length)) I else _)=_;rw[aF (jP (vs:=v::C) (by rw[aQ];exact h)),aQ,bP #["1cM4=.3"]];unfold dZ;rw[<-aQ,pe];rfl
theorem Nr (h:(Wb C)<1000000):du (.t (C++[v])) (.i (-1)) I=aa v:=by show(if 0<=(-1:aq)+(C++[v]).length then aa ((-1:aq)+(C++[v]).length).toNat else ah).bind _=_;rw[ar,bj,aF (by omega),show((-1:aq)+(((Wb C)+1:af):aq)).toNat=(Wb C)by omega];show(C++[v])[(Wb C)]?=_;rw[be (bf _),iz];rfl
theorem CB (h:(Wb C)+(Wb J)<=1000000):binop .Add (.t C) (.t J) I=.k (.t (C++J)) I:=by show(if bV (C++J)=ai then _ else _)=_;rw[aF (jP (by rw[ar];exact h))]
theorem o6 {x y:ae af} (h:(Wb x)+(Wb y)<=1000000):binop .Add (.s x) (.s y) I=.k (.s (x++y)) I:=by show(if bV (x++y)=ai then _ else _)=_;rw[aF (jP (by rw[ar];exact h))]
abbrev Pc:=ae (ae af)×ae aq
noncomputable def cJ (p:Pc):AV:=.t [.t (p.1.map .s),.t (p.2.map .i)]
noncomputable def sS (r:Row) (i:aq):au (ae af):=match r with|.s s _=>aa s|.n m _=>aa (gm m)|.e _=>aa (gm 3)|.x _=>aa [120]|.b v _=>aa (if v=1 then[116,114,117,101]else[102,97,108,115,101])|_=>if i=5 then aa [110,117,108,108]else if i=4 then aa [117,110,100,101,102,105,110,101,100]else ah
noncomputable def Nt:au (ae af)->AV
 |some s=>.s s
 |none=>.n
theorem xZ {m:aq} (h:cP m=ai):kq "str" [.i m] I=.k (.s (gm m)) I:=by show(if(cP m||decide (-(10^17)<m/\m<10^17))=ai then _ else _)=_;rw[aF (by rw[h];rfl)]
noncomputable def iS (T:ae Row) (i:aq):Pc:=match sS (cL T i) i with
 |some w=>([w],[])
 |none=>match cL T i with|.t xs ts=>(xs,ts)|_=>([[],[]],[i])
end
section
variable {I:ae aq} {C:aq} {T:ae Row} {G X:St} {n p:af} {l:ae aq} {i:aq} {r:Row}
set_option tactic.hygienic true in
theorem Qs (d:0<=i) (c:T[i.toNat]?=aa r) (g:(Wb T)<=1000000) (o:∀m f,r=.n m f->cP m=ai):cg PR (n+30) "unit_word" [] [.l 6,.i i] (bz I C T++G)=.k (Nt (sS r i)) (bz I C T++G):=by
 have p:=nI (I:=I) (C:=C) (G:=G) d c g;have gen:∀r w,T[i.toNat]?=aa r->kd r≠3->kd r≠4->kd r≠5->kd r≠2->w=Nt (if i=5 then aa [110,117,108,108]else if i=4 then aa [117,110,100,101,102,105,110,101,100]else ah)->cg PR (n+30) "unit_word" [] [.l 6,.i i] (bz I C T++G)=.k w (bz I C T++G):=λr w c q t u y a=>by
  have p:=nI (I:=I) (C:=C) (G:=G) d c g;have h:=xW (I:=bz I C T++G) r;by_cases e5:i=5
  ·rw[aF e5]at a;subst a;apply bX (bs:=[("tab",.l 6),("t",.i i)]) jR rfl
   lcg_sub
  ·rw[aG e5]at a;by_cases j:i=4
   ·rw[aF j]at a;subst a;apply bX (bs:=[("tab",.l 6),("t",.i i)]) jR rfl
    lcg_sub
   ·rw[aG j]at a;refine dq a ?_;apply bX (bs:=[("tab",.l 6),("t",.i i)]) jR rfl
    lcg_sub
 cases r
 case s s f=>
  apply bX (bs:=[("tab",.l 6),("t",.i i)]) jR rfl
  lcg_sub
 case n m f=>
  have h:=xZ (I:=bz I C T++G) (o m f rfl);apply bX (bs:=[("tab",.l 6),("t",.i i)]) jR rfl
  lcg_sub
 case e f=>
  have h:=xZ (I:=bz I C T++G) (m:=3) rfl;apply bX (bs:=[("tab",.l 6),("t",.i i)]) jR rfl
  lcg_sub
 case x f=>
  apply bX (bs:=[("tab",.l 6),("t",.i i)]) jR rfl
  lcg_sub
 case b v f=>
  show _=R.k (AV.s (if v=1 then[116,114,117,101]else[102,97,108,115,101])) _;by_cases e:v=1
  ·rw[aF e];apply bX (bs:=[("tab",.l 6),("t",.i i)]) jR rfl
   lcg_sub
  ·rw[aG e];apply bX (bs:=[("tab",.l 6),("t",.i i)]) jR rfl
   lcg_sub
 all_goals exact gen _ _ c (by simp[kd]) (by simp[kd]) (by simp[kd]) (by simp[kd]) rfl
theorem Qt (c:0<=i) (d:T[i.toNat]?=aa r) (e:(Wb T)<=1000000) (a:kd r=10\/kd r=14):cg PR (n+30) "is_open" [] [.l 6,.i i] (bz I C T++G)=.k (.b ai) (bz I C T++G):=by
 have g:=nI (I:=I) (C:=C) (G:=G) c d e;have f:=xW (I:=bz I C T++G) r;rcases a with a|a<;>rw[a]at f<;>
 ·apply bX (bs:=[("tab",.l 6),("t",.i i)]) KR rfl
  lcg_sub
theorem Qu {xs a:ae (ae af)} {x y:ae af} {σ:St} (b:(Wb xs)+(Wb a)<10000) (c:(Wb x)+(Wb y)<=1000000):
  cg PR (n+30) "glue" [] [.t ((xs++[x]).map .s),.t ((y::a).map .s)] σ=.k (.t ((xs++(x++y)::a).map .s)) σ:=by
 rw[dh,fj,dh];have e:=Jb (I:=σ) (v:=.s x) (C:=xs.map .s) (by rw[az];exact#[124,b]);have f:=Jc (I:=σ) (v:=.s y) (C:=a.map .s) (by rw[az];exact#["1qNA})be8E1_v**KVY",b]);have g:=Nr (I:=σ) (v:=.s x) (C:=xs.map .s) (by rw[az];exact#[124,b]);have h:=o6 (I:=σ) c;have j:=CB (I:=σ) (C:=xs.map .s) (J:=[.s (x++y)]) (by rw[az,bj];exact#["JCVX14>38&~gFo?US'u",b]);have d:=CB (I:=σ) (C:=xs.map .s++[.s (x++y)]) (J:=a.map .s) (by rw[ar,az,az,bj];exact#["2t`Ju=7:exsq$h|B*H^$s",b]);rw[aj]at d;have l:du (.t (.s y::a.map .s)) (.i 0) σ=aa (.s y):=by show(if(0:aq)<((a.map AV.s).length+1:af)then aa 0 else ah).bind _=_;rw[aF (by omega)];rfl
 apply bX (bs:=[("left",.t (xs.map .s++[.s x])),("right",.t (.s y::a.map .s))]) Tc rfl
 lcg_sub
end
section
variable {J:ae aq} {C:aq} {T:ae Row} {G X X':St} {n k:af} {i:aq} {r:Row} {σ:St} {v w:AV} {I ws:ae AV}
theorem Jd (a:X[k]?=aa (.l I)) (b:(Wb I)<=1000000) (v:AV):jg "list.append" (.l ((Wb G)+k+17)) [v] (bz J C T++(G++X))=.k .n (bz J C T++(G++X.set k (.l (I++[v])))):=by show(li _ _ _).bind _=_;rw[Eb a b];rfl
def rK (T:ae Row) (i:aq):Prop:=je T i/\(∀m f,cL T i=.n m f->cP m=ai)/\(sS (cL T i) i=ah->(∃xs ts,cL T i=.t xs ts)\/((∀xs ts,cL T i≠.t xs ts)/\(i=6\/i=7\/i=0\/((kd (cL T i)=10\/kd (cL T i)=14)/\i≠6/\i≠7/\i≠0))))
theorem Tk (h:∀xs ts,r≠.t xs ts):kd r≠18:=by cases r<;>first|exact bJ rfl (h _ _)|simp[kd]
theorem GQ {w:ae af} (h:sS (cL T i) i=aa w):iS T i=([w],[]):=by unfold iS;rw[h]
theorem Je {xs:ae (ae af)} {ts:ae aq} (h:sS (cL T i) i=ah) (a:cL T i=.t xs ts):iS T i=(xs,ts):=by unfold iS;rw[h,a]
theorem GR (h:sS (cL T i) i=ah) (a:∀xs ts,cL T i≠.t xs ts):iS T i=([[],[]],[i]):=by unfold iS;rw[h];cases q:cL T i<;>first|rfl|exact bJ q (a _ _)
end
section
variable {I:ae aq} {C:aq} {T:ae Row} {G X:St} {n p:af} {l:ae aq} {i:aq} {r:Row}
theorem Qv {acc:ae AV} {vars:ae (aC×AV)} (s:rK T i) (q:(Wb T)<=1000000) (y:(Wb acc)<=1000000) (K:vars.lookup "tab"=aa (.l 6)) (L:vars.lookup "pieces"=aa (.l ((Wb G)+0+17))):
  ∃u w,dw PR (n+60) [.a "word" (.f (.g "unit_word") [.v "tab",.v "part"]),.a "row" (.u (.a (.v "tab") "rows") (.v "part")),
   .i (.m (.v "word") .IsNot (.l (.n))) [.e (.h (.v "pieces") "append" [.p [.p [.v "word"],.p []]])] [.i (.m (eU 0) .Eq (.g "Y_TPL")) [.e (.h (.v "pieces") "append" [.p [eU 1,eU 2]])] [.i (.o .Or [.m (.v "part") .In (.p [.g "STRING",.g "NUMBER",.g "ANY"]),.f (.g "is_open") [.v "tab",.v "part"]]) [.e (.h (.v "pieces") "append" [.p [.p [lS [],lS []],.p [.v "part"]]])] [.e (.h (.v "pieces") "append" [.p [.p [lS [],lS []],.p [.g "STRING"]]])]]]]
   ⟨bA "part" (.i i) vars,[]⟩ (bz I C T++(G++([.l acc])))=.k (.n,⟨bA "row" u (bA "word" w (bA "part" (.i i) vars)),[]⟩) (bz I C T++(G++([.l (acc++[cJ (iS T i)])]:St))):=by
 refine iK s ?_;clear s;intro b z A;have B:=nI (I:=I) (C:=C) (G:=G++([.l acc]:St)) b.1 b.at q;have x:=λn=>Qs (n:=n) (I:=I) (C:=C) (G:=G++([.l acc]:St)) b.1 b.at q z;have M:(bz I C T++(G++([.l acc]:St)))[(Wb G)+0+17]?=aa (.l acc):=(gk 0).trans rfl;have r:jg "list.append" (.l ((Wb G)+0+17)) [cJ (iS T i)] (bz I C T++(G++([.l acc]:St)))=.k .n (bz I C T++(G++([.l (acc++[cJ (iS T i)])]:St))):=Jd (k:=0) rfl y _;have D:=xW (I:=bz I C T++(G++([.l acc]:St))) (cL T i);refine lg (dA (cL T i)) (Nt (sS (cL T i) i)) ?_;cases e:sS (cL T i) i with
 |some w=>
  rw[GQ e]at r⊢;rw[e]at x
  lcg_sub
 |none=>
  rw[e]at x;rcases A e with⟨xs,ts,d⟩|⟨d,c⟩
  ·rw[Je e d]at r⊢;rw[d]at B D⊢
   lcg_sub
  ·rw[GR e d]at r⊢;have N:=Tk d;have j:∀σ,dG .In (.i i) (.t [.i 6,.i 7,.i 0]) σ=aa (decide (i=6)||(decide (i=7)||(decide (i=0)||false))):=λσ=>by
    show aa (decide (6=i)||(decide (7=i)||(decide (0=i)||false)))=_;simp only[eq_comm]
   replace j:=j (bz I C T++(G++([.l acc])));rcases c with c|c|c|⟨E,F,H,J⟩
   ·subst c;lcg_sub
   ·subst c;lcg_sub
   ·subst c;lcg_sub
   ·have O:=λn=>Qt (n:=n) (I:=I) (C:=C) (G:=G++([.l acc]:St)) b.1 b.at q E;rw[aX F,aX H,aX J]at j;replace j:_=aa aD:=j
    lcg_sub
end
section
variable {J:ae aq} {C:aq} {T:ae Row} {G X X':St} {n k:af} {i:aq} {r:Row} {R σ1 σ':St} {v w:AV} {us I ws:ae AV} {fr:AF} {es:ae IE}
theorem l0:(bz J C T++G).length=(Wb G)+0+17:=rfl
theorem a0 o:bz J C T++G++[o]=bz J C T++(G++[o]):=aj ..
theorem rL (h:(Wb I)<=1000000):items (.t I) R=aa (I,ah):=by show(if bV I=ai then _ else _)=_;rw[aF (jP h)]
end
section
variable {I:ae aq} {C:aq} {T:ae Row} {G X:St} {n p:af} {l:ae aq} {i:aq} {r:Row}
theorem Qw (A:(Wb T)<=1000000) (all:ae AV):∀(d:ae aq) (b:ae AV) (vars:ae (aC×AV)),(∀q∈d,rK T q)->(Wb b)+(Wb d)<=1000000->vars.lookup "tab"=aa (.l 6)->vars.lookup "pieces"=aa (.l ((Wb G)+0+17))->
  ∃c,eJ ah all (λv fr σ=>dw PR (n+60) [.a "word" (.f (.g "unit_word") [.v "tab",.v "part"]),.a "row" (.u (.a (.v "tab") "rows") (.v "part")),
   .i (.m (.v "word") .IsNot (.l (.n))) [.e (.h (.v "pieces") "append" [.p [.p [.v "word"],.p []]])] [.i (.m (eU 0) .Eq (.g "Y_TPL")) [.e (.h (.v "pieces") "append" [.p [eU 1,eU 2]])] [.i (.o .Or [.m (.v "part") .In (.p [.g "STRING",.g "NUMBER",.g "ANY"]),.f (.g "is_open") [.v "tab",.v "part"]]) [.e (.h (.v "pieces") "append" [.p [.p [lS [],lS []],.p [.v "part"]]])] [.e (.h (.v "pieces") "append" [.p [.p [lS [],lS []],.p [.g "STRING"]]])]]]]
   {fr with v:=bA "part" v fr.v} σ) (d.map .i) ⟨vars,[]⟩ (bz I C T++(G++([.l b])))=.k (.n,⟨c,[]⟩) (bz I C T++(G++([.l (b++d.map λq=>cJ (iS T q))]:St)))/\c.lookup "pieces"=aa (.l ((Wb G)+0+17)):=by
 intro r;induction r with
 |nil=>exactλb vars x x x j=>aY vars (by rw[show b++([]:ae aq).map (λq=>cJ (iS T q))=b from aJ _];exact iY rfl) j
 |cons q d s=>
  intro b vars y t z j;rw[aQ]at t;refine pR (Qv (n:=n) (I:=I) (C:=C) (y q aH) A #["JCVW*u:=Cb<S2pU44ua",t] z j) λu w e=>?_;refine ba (s (b++[cJ (iS T q)]) (bA "row" u (bA "word" w (bA "part" (.i q) vars))) (λq h=>y q (aK _ h)) (by rw[ar,bj];exact#["VmBG9S1i.k6;R,qFxui|E)",t])
   (by rw[a_ #[0],a_ #[0],a_ #[0]];exact z) (by rw[a_ #[0],a_ #[0],a_ #[0]];exact j)) λB D E=>?_
  refine aY B (fZ rfl e ?_) E;rw[D,aj];rfl
noncomputable def cu (T:ae Row) (t:aq):ae Pc:=(bQ T t).map (iS T)
theorem Qx {t:aq} (a:je T t) (b:∀q∈bQ T t,rK T q) (c:(Wb T)<=1000000) (d:(bQ T t).length<=10000):
  cg PR (n+80) "hole_pieces" [] [.l 16,.i t] (bz I C T++G)=.k (.l ((Wb G)+0+17)) (bz I C T++(G++([.l ((cu T t).map cJ)]:St))):=by
 have f:=λn=>wN (n:=n) (I:=I) (C:=C) (G:=G++([.l []]:St)) a.1 a.at c;have g:=rL (R:=bz I C T++(G++([.l []]:St))) (I:=(bQ T t).map .i) (by rw[az];exact#[12,d]);have h:=l0 (J:=I) (C:=C) (T:=T) (G:=G);have j:=a0 (J:=I) (C:=C) (T:=T) (G:=G) (.l []);refine ba (Qw (n:=n+15) (I:=I) (C:=C) c ((bQ T t).map .i) (bQ T t) [] [("host",.l 16),("t",.i t),("tab",.l 6),("pieces",.l ((Wb G)+0+17))] b (by rw[cR];exact#["1qNA}.H:r~sP_Z89UQ",d]) rfl rfl) λm e o=>?_;rw[eF]at e;rw[show(cu T t).map cJ=(bQ T t).map λq=>cJ (iS T q)from iA];apply bX DT rfl
 lcg_sub
end
section
variable {nu:ae aq} {at_:aq} {T:ae Row} {G X X':St} {n k:af} {i:aq} {r:Row} {I σ1 σ':St} {v w:AV} {us C ws:ae AV} {fr:AF} {es:ae IE}
noncomputable def iZ (a b:ae (ae af)):ae (ae af):=a.dropLast++(a.getLastD []++b.headD [])::b.tail
noncomputable def lZ (o q:Pc) (x:ae af):Pc:=(iZ (iZ o.1 q.1) [x],o.2++q.2)
noncomputable def lH (J P:ae Pc) (x:ae af):ae Pc:=J.flatMap λo=>P.map λq=>lZ o q x
noncomputable def kS (T:ae Row):ae Pc->ae aq->ae (ae af)->au (ae Pc)
 |J,[],_=>aa J
 |J,t::ts,x::xs=>if 200<(Wb J)*(cu T t).length then ah else kS T (lH J (cu T t) x) ts xs
 |_,_::_,[]=>ah
noncomputable def pF (a:ae (ae af)):af:=(a.map fu).sum
noncomputable def wt (p:Pc):af:=p.1.length+p.2.length+pF p.1
theorem CC (a b:ae (ae af)):pF (a++b)=pF a+pF b:=by unfold pF;rw[dh,List.sum_append]
theorem lQ (x:ae af) (b:ae (ae af)):pF (x::b)=(Wb x)+pF b:=by unfold pF;rw[fj,List.sum_cons]
theorem Fw (xs a:ae (ae af)) (x y:ae af):iZ (xs++[x]) (y::a)=xs++(x++y)::a:=by unfold iZ;rw[List.dropLast_concat,xc];rfl
variable {a b:ae (ae af)}
theorem Tm (h:a≠[]):∃xs x,a=xs++[x]:=lg a.dropLast (a.getLast h) ((mj h).symm)
theorem tS (a b:ae (ae af)):iZ a b≠[]:=by unfold iZ;simp
theorem CD (d:a≠[]) (e:b≠[]):(iZ a b).length+1=(Wb a)+(Wb b)/\pF (iZ a b)=pF a+pF b:=by
 refine pR (Tm d) λxs x c=>?_;clear d;refine dq c ?_
 match b,e with|y::ys,_=>rw[Fw,CC,CC,lQ,lQ,lQ,ar,ar,aQ,aQ,aQ];have:pF []=0:=rfl;have:=ar (as:=x) (bs:=y);have:([]:ae (ae af)).length=0:=rfl;exact⟨aB #["6f$a6(dk>oJ_w}HG"] #["47{;f}jWBgtUtKJm2omk",this],aB #["hi;IQNO=6|+FaaR*c6e",(by assumption)] #["pR%T&vsPD,U9DIFc&seEee=",(by assumption),(by assumption)]⟩
theorem Hz {o q:Pc} {x:ae af} (e:o.1≠[]) (f:q.1≠[]):wt (lZ o q x)+1=wt o+wt q+(Wb x):=by
 have c:=CD e f;have a:=CD (tS o.1 q.1) (b:=[x]) (by simp);have d:pF [x]=(Wb x):=by rw[lQ];rfl
 have g:(lZ o q x).2.length=o.2.length+q.2.length:=ar;unfold wt;rw[g];rw[bj]at a;exact aB #["N=>Y~b}F<y9t,B9LxuymiG$A$qZ<(Fc`KXVy}S9KVqLw1~Zxo",c.1,c.2,a.1,a.2,d] #["oC*St=x{`9:M.0S%'!7M`KY)faFY6NCM?q$sD8pS*eRB.5f&c",c.1,c.2,a.1,a.2,d]
theorem Df (e:a≠[]) (f:b≠[]) (c:(Wb a)+(Wb b)+pF a+pF b<10000):
  cg PR (n+30) "glue" [] [.t (a.map .s),.t (b.map .s)] I=.k (.t ((iZ a b).map .s)) I:=by
 refine pR (Tm e) λxs x d=>?_;clear e;obtain rfl:=d
 match b,f,c with|y::ys,_,c=>rw[CC,lQ,lQ,ar,aQ,aQ]at c;rw[Fw];exact Qu #["1ZqTzMX0S8_pjy0vkuNcZDV7`&a75zM",c] #["1tYP?'UlD|G7j83i0?l{J$.`R6yhYE88",c]
noncomputable def dr (k:af):af->ae AV
 |0=>[]
 |m+1=>.i (k:af)::dr (k+1) m
theorem nJ (m:af):lr 0 m=dr 0 m:=by
 have h:∀m k,(eY k m).map (λ(i:af)=>AV.i ((0:aq)+(i:aq)))=dr k m:=λm=>by induction m with|zero=>intro k;rfl|succ m a=>intro k;rw[iP,fj,a,ym];rfl
 unfold lr;rw[show(((m):aq)-0).toNat=m by omega,qv,h]
theorem Fy {a b:aq} (c:cP a=ai) (d:cP b=ai):binop .Mult (.i a) (.i b) I=.k (.i (a*b)) I:=by show(if(cP a&&cP b)=ai then _ else _)=_;rw[c,d];rfl
theorem c_ {m:af} (h:m<=1000000):cP (m:aq)=ai:=by unfold cP;exact aI (by omega)
theorem K7 {a b c:af}:dG .Gt (.i ((a:aq)*b)) (.i (c:af)) I=aa (decide (c<a*b)):=by rw[<-Int.natCast_mul];exact aU aa (eH.mpr Go)
theorem pG {j:aq} (b:0<=j) (a:C[j.toNat]?=aa v) (c:(Wb C)<=1000000):du (.t C) (.i j) I=aa v:=by have d:=(aP.mp a).1;show(if cP j=ai then(idx (Wb C) j).bind λk=>C[k]? else ah)=_;rw[aF (by unfold cP;exact aI (by omega))];show(if 0<=j then(if j<(Wb C)then aa j.toNat else ah)else _).bind _=_;rw[aF b,aF (by omega)];exact a
end
section
variable {I:ae aq} {C:aq} {T:ae Row} {H:St} {n j:af} {J:St}
theorem Nu {p:Pc}:du (cJ p) (.i 0) J=aa (.t (p.1.map .s)):=rfl
theorem Nv {p:Pc}:du (cJ p) (.i 1) J=aa (.t (p.2.map .i)):=rfl
theorem Qy {o q:Pc} {x:ae af} {P:ae Pc} {acc:ae AV} {vars:ae (aC×AV)} (a:o.1≠[]/\wt o<=4000) (c:q.1≠[]/\wt q<=1000) (r:(Wb x)<=1000) (w:(Wb acc)<=100000)
  (A:vars.lookup "old"=aa (cJ o)) (B:vars.lookup "after"=aa (.t [.s x])) (D:vars.lookup "more"=aa (.l ((Wb H)+1+17))):
  dw PR (n+60) [.e (.h (.v "more") "append" [.p [.f (.g "glue") [.f (.g "glue") [.u (.v "old") (lI 0),.u (.v "piece") (lI 0)],.v "after"],.b .Add (.u (.v "old") (lI 1)) (.u (.v "piece") (lI 1))]])]
   ⟨bA "piece" (cJ q) vars,[]⟩ (bz I C T++(H++([.l (P.map cJ),.l acc]:St)))=.k (.n,⟨bA "piece" (cJ q) vars,[]⟩) (bz I C T++(H++([.l (P.map cJ),.l (acc++[cJ (lZ o q x)])]:St))):=by
 have d:=a.2;have j:=c.2;have g1:=λn=>Df (n:=n) (I:=bz I C T++(H++([.l (P.map cJ),.l acc]:St))) a.1 c.1 #["2SfHw%2uouK*aWXw;7xr4wmM5^vXQvBj^s",d,j];have m:=CD a.1 c.1;have g2:∀n,cg PR (n+30) "glue" [] [.t ((iZ o.1 q.1).map .s),.t [.s x]] (bz I C T++(H++([.l (P.map cJ),.l acc]:St)))=.k (.t ((lZ o q x).1.map .s)) (bz I C T++(H++([.l (P.map cJ),.l acc]:St))):=λn=>Df (tS o.1 q.1) (b:=[x]) (by simp) (by rw[lQ,bj,show pF []=0 from rfl];exact#[">CYX|{LYgUQoVQH<$?kW'p>ckihdLk25OTv*gZT`*dl+:Yo)%eds>d)",r,d,j,m.1,m.2]);have E:binop .Add (.t (o.2.map .i)) (.t (q.2.map .i)) (bz I C T++(H++([.l (P.map cJ),.l acc]:St)))=.k (.t ((lZ o q x).2.map .i)) (bz I C T++(H++([.l (P.map cJ),.l acc]:St))):=by rw[CB (by rw[az,az];exact#["1tYP?'UlD|F*8U!>;ygQ^%eI7=2vD)*c",d,j]),<-dh];rfl
 have y:(bz I C T++(H++([.l (P.map cJ),.l acc]:St)))[(Wb H)+1+17]?=aa (.l acc):=(gk 1).trans rfl;have z:jg "list.append" (.l ((Wb H)+1+17)) [cJ (lZ o q x)] (bz I C T++(H++([.l (P.map cJ),.l acc]:St)))=.k .n (bz I C T++(H++([.l (P.map cJ),.l (acc++[cJ (lZ o q x)])]:St))):=Jd (k:=1) rfl #[2,w] _;have F:=Nu (J:=bz I C T++(H++([.l (P.map cJ),.l acc]:St))) (p:=o);have G:=Nv (J:=bz I C T++(H++([.l (P.map cJ),.l acc]:St))) (p:=o);have K:=Nu (J:=bz I C T++(H++([.l (P.map cJ),.l acc]:St))) (p:=q);have L:=Nv (J:=bz I C T++(H++([.l (P.map cJ),.l acc]:St))) (p:=q);refine aT (mC (mD ?_ y (aS (sQ ?_ rfl) bu) z)) cG
 ·lcg_sub
 ·lcg_sub
end
section
variable {I:ae aq} {C:aq} {T:ae Row} {H:St} {n j:af} {R:St}
variable {x:ae af} {P:ae Pc}
theorem UH {o:Pc} (D:(Wb x)<=1000) (E:o.1≠[]/\wt o<=4000):∀(Q:ae Pc) (a:ae AV) (vars:ae (aC×AV)),(∀q∈Q,q.1≠[]/\wt q<=1000)->(Wb a)+(Wb Q)<=100000->
  vars.lookup "old"=aa (cJ o)->vars.lookup "after"=aa (.t [.s x])->vars.lookup "more"=aa (.l ((Wb H)+1+17))->vars.lookup "pieces"=aa (.l ((Wb H)+0+17))->
  ∃c,eJ (aa ((Wb H)+0+17)) (P.map cJ) (λv fr R=>dw PR (n+60) [.e (.h (.v "more") "append" [.p [.f (.g "glue") [.f (.g "glue") [.u (.v "old") (lI 0),.u (.v "piece") (lI 0)],.v "after"],.b .Add (.u (.v "old") (lI 1)) (.u (.v "piece") (lI 1))]])] {fr with v:=bA "piece" v fr.v} R)
   (Q.map cJ) ⟨vars,[]⟩ (bz I C T++(H++([.l (P.map cJ),.l a]:St)))=.k (.n,⟨c,[]⟩) (bz I C T++(H++([.l (P.map cJ),.l (a++Q.map λq=>cJ (lZ o q x))]:St)))/\∀y,y≠"piece"->c.lookup y=vars.lookup y:=by
 intro i;induction i with
 |nil=>exactλa vars d d d d d d=>aY vars (by rw[show a++([]:ae Pc).map (λq=>cJ (lZ o q x))=a from aJ _];exact iY (Bs (k:=0) rfl)) (λd d=>rfl)
 |cons q Q j=>
  intro a vars r m w z A F;rw[aQ]at m;have e:=Qy (n:=n) (I:=I) (C:=C) (T:=T) (P:=P) E (r q aH) D #[48,m] w z A;obtain⟨G,J,K⟩:=j (a++[cJ (lZ o q x)]) (bA "piece" (cJ q) vars) (λq h=>r q (aK _ h)) (by rw[ar,bj];exact#[22,m])
   (by rw[a_ #[0]];exact w) (by rw[a_ #[0]];exact z) (by rw[a_ #[0]];exact A) (by rw[a_ #[0]];exact F)
  refine aY G (fZ (Bs (k:=0) rfl) e ?_) (λy B=>by rw[K y B,a_ B]);rw[J,aj];rfl
theorem Tn {z:ae Pc} (K:(Wb x)<=1000) (L:∀q∈P,q.1≠[]/\wt q<=1000) (M:P.length<=1000) (A:H[j]?=aa (.l (z.map cJ))):∀(J:ae Pc) (a:ae AV) (vars:ae (aC×AV)),(∀o∈J,o.1≠[]/\wt o<=4000)->(Wb a)+((Wb J)*P.length)<=1000->
  vars.lookup "after"=aa (.t [.s x])->vars.lookup "more"=aa (.l ((Wb H)+1+17))->vars.lookup "pieces"=aa (.l ((Wb H)+0+17))->
  ∃c,eJ (aa (j+17)) (z.map cJ) (λv fr R=>dw PR (n+62) [.f (.v "piece") (.v "pieces") [.e (.h (.v "more") "append" [.p [.f (.g "glue") [.f (.g "glue") [.u (.v "old") (lI 0),.u (.v "piece") (lI 0)],.v "after"],.b .Add (.u (.v "old") (lI 1)) (.u (.v "piece") (lI 1))]])]] {fr with v:=bA "old" v fr.v} R)
   (J.map cJ) ⟨vars,[]⟩ (bz I C T++(H++([.l (P.map cJ),.l a]:St)))=.k (.n,⟨c,[]⟩) (bz I C T++(H++([.l (P.map cJ),.l (a++(lH J P x).map cJ)]:St)))/\∀y,y≠"piece"->y≠"old"->c.lookup y=vars.lookup y:=by
 intro r;induction r with
 |nil=>exactλa vars d d d d d=>aY vars (by rw[show a++(lH [] P x).map cJ=a from aJ _];exact iY (fg (gG A))) (λd d d=>rfl)
 |cons o J w=>
  intro a vars B m D E F;rw[aQ,oQ,jU]at m;refine ba (UH (n:=n) (I:=I) (C:=C) (T:=T) (P:=P) K (B o aH) P a (bA "old" (cJ o) vars) L #["M)SfF9?y758~6DVZj&:q",m] (bB) (by rw[a_ #[0]];exact D) (by rw[a_ #[0]];exact E) (by rw[a_ #[0]];exact F)) λv1 N k1=>?_;refine ba (w (a++P.map λq=>cJ (lZ o q x)) v1 (λo h=>B o (aK _ h)) (by rw[ar,az];exact#["2zjCmA1W+qiAa9D4~ww5G",m])
   (by rw[k1 _ #[0],a_ #[0]];exact D) (by rw[k1 _ #[0],a_ #[0]];exact E) (by rw[k1 _ #[0],a_ #[0]];exact F)) λO Q k2=>?_
  have S:items (.l ((Wb H)+0+17)) (bz I C T++(H++([.l (P.map cJ),.l a]:St)))=aa (P.map cJ,aa ((Wb H)+0+17)):=K4 (k:=0) rfl (by rw[az];exact#["JCVW*u:<lq=yRB%flgs",m]);refine aY O (fZ (fg (gG A)) (IQ (gI ?_ S N) (Fh cG)) ?_) (λy G i=>by rw[k2 y G i,k1 y G,a_ i])
  ·lcg_sub
  ·rw[Q,aj];rw[dh,iA];rfl
end
section
variable {I:ae aq} {C:aq} {T:ae Row} {H:St} {n j:af} {R:St}
structure rM (T:ae Row) (t:aq):Prop where
 id:je T t
 parts:∀q∈bQ T t,rK T q
 len:(bQ T t).length<=1000
 wts:∀q∈cu T t,q.1≠[]/\wt q<=1000
theorem Qz {xs:ae (ae af)} {ts:ae aq} {t:aq} {x:ae af} {J:ae Pc} {k:af} {vars:ae (aC×AV)} (U:(Wb T)<=1000000) (w:rM T t) (A:(Wb ts)<=1000) (B:(Wb xs)<=1000) (D:ts[k]?=aa t) (E:xs[k+1]?=aa x) (V:(Wb x)<=100) (W:∀o∈J,o.1≠[]/\wt o<=4000) (d:(Wb J)<=1000)
  (F:H[j]?=aa (.l (J.map cJ))) (K:vars.lookup "host"=aa (.l 16)) (M:vars.lookup "texts"=aa (.t (xs.map .s))) (N:vars.lookup "types"=aa (.t (ts.map .i))) (O:vars.lookup "joined"=aa (.l (j+17))):
  ∃c X,dw PR (n+120) [.a "pieces" (.f (.g "hole_pieces") [.v "host",.h (.v "host") "force" [.u (.v "types") (.v "place")]]),
   .i (.m (.b .Mult (dm (.v "joined")) (dm (.v "pieces"))) .Gt (.g "MOST_CROSSED")) [.x (.f (.g "TooDeep") [lI 2590])] [],
   .a "after" (.p [.u (.v "texts") (.b .Add (.v "place") (lI 1))]),
   .a "more" (.s []),
   .f (.v "old") (.v "joined") [.f (.v "piece") (.v "pieces") [.e (.h (.v "more") "append" [.p [.f (.g "glue") [.f (.g "glue") [.u (.v "old") (lI 0),.u (.v "piece") (lI 0)],.v "after"],.b .Add (.u (.v "old") (lI 1)) (.u (.v "piece") (lI 1))]])]],
   .a "joined" (.v "more")] ⟨bA "place" (.i (k:af)) vars,[]⟩ (bz I C T++H)=(if 200<(Wb J)*(cu T t).length then .x "TooDeep" (bz I C T++(H++X))else .k (.n,⟨c,[]⟩) (bz I C T++(H++X)))/\
   (¬200<(Wb J)*(cu T t).length->c.lookup "host"=aa (.l 16)/\c.lookup "texts"=aa (.t (xs.map .s))/\c.lookup "types"=aa (.t (ts.map .i))/\c.lookup "joined"=aa (.l ((Wb H)+1+17))/\(H++X)[(Wb H)+1]?=aa (.l ((lH J (cu T t) x).map cJ))):=by
 have q:(cu T t).length<=1000:=by unfold cu;rw[az];exact w.len
 have Y:=λn=>Qx (n:=n) (I:=I) (C:=C) (G:=H) w.id w.parts U (by have:=w.len;exact#["9}=}bpB1|gM=+7m",this]);have Z:=λn=>Ni (n:=n) (I:=bz I C T++H) (v:=.i t);have c3:du (.t (ts.map .i)) (.i (k:af)) (bz I C T++H)=aa (.i t):=pG (by omega) (by rw[show((k):aq).toNat=k by omega,bE,D];rfl) (by rw[az];exact#[3,A]);have c4:builtin "len" [.l (j+17)] (bz I C T++(H++([.l ((cu T t).map cJ)]:St)))=.k (.i (Wb J)) (bz I C T++(H++([.l ((cu T t).map cJ)]:St))):=by rw[mW (gG F) (by rw[az];exact#[3,d]),az]
 have c5:builtin "len" [.l ((Wb H)+0+17)] (bz I C T++(H++([.l ((cu T t).map cJ)]:St)))=.k (.i ((cu T t).length:af)) (bz I C T++(H++([.l ((cu T t).map cJ)]:St))):=by rw[mW ((gk 0).trans rfl) (by rw[az];exact#[3,q]),az]
 have c6:binop .Mult (.i ((Wb J):af)) (.i ((cu T t).length:af)) (bz I C T++(H++([.l ((cu T t).map cJ)]:St)))=.k (.i (((Wb J):aq)*((cu T t).length:aq))) (bz I C T++(H++([.l ((cu T t).map cJ)]:St))):=Fy (c_ #[3,d]) (c_ #[3,q]);have L:∀R,dG .Gt (.i (((Wb J):aq)*((cu T t).length:aq))) (.i 200) R=aa (decide (200<(Wb J)*(cu T t).length)):=λR=>K7;replace L:=L (bz I C T++(H++([.l ((cu T t).map cJ)]:St)));have Q:cS PR (n+119) (.a "pieces" (.f (.g "hole_pieces") [.v "host",.h (.v "host") "force" [.u (.v "types") (.v "place")]])) ⟨bA "place" (.i k) vars,[]⟩ (bz I C T++H)=.k (.n,⟨bA "pieces" (.l ((Wb H)+0+17)) (bA "place" (.i k) vars),[]⟩) (bz I C T++(H++([.l ((cu T t).map cJ)]:St))):=by
  apply dQ;apply bU
  ·exact cC DS
  ·apply aS
   ·exact aO (b9 K)
   ·apply aS
    ·apply Ba
     ·exact aO (b9 K)
     ·exact rfl
     ·exact rfl
     ·exact rfl
     ·exact rfl
     ·apply aS
      ·apply eu
       ·exact aO (b9 N)
       ·exact aO (bB)
       ·exact c3
      ·exact bu
     ·apply jX;exact Z _
    ·exact bu
  ·apply jX;exact Y _
 have y:er PR (n+117) ⟨bA "pieces" (.l ((Wb H)+0+17)) (bA "place" (.i k) vars),[]⟩ (.m (.b .Mult (dm (.v "joined")) (dm (.v "pieces"))) .Gt (.g "MOST_CROSSED")) (bz I C T++(H++([.l ((cu T t).map cJ)]:St)))=.k (decide (200<(Wb J)*(cu T t).length)) (bz I C T++(H++([.l ((cu T t).map cJ)]:St))):=by
  apply ef
  ·apply fX
   ·apply bU
    ·exact cC gn
    ·apply aS
     ·exact aO (b9 (b9 O))
     ·exact bu
    ·exact gM c4
   ·apply bU
    ·exact cC gn
    ·apply aS
     ·exact aO (bB)
     ·exact bu
    ·exact gM c5
   ·exact c6
  ·exact cC Cx
  ·exact L
 by_cases r:200<(Wb J)*(cu T t).length
 ·rw[aI r]at y;refine dY vars ([.l ((cu T t).map cJ)]) ?_ (λh=>bJ r h);rw[aF r];exact yI Q (Bd (UB y (Bd (Qa KN rfl))))
 ·rw[aX r]at y;have c7:du (.t (xs.map .s)) (.i ((k:af)+1)) (bz I C T++(H++([.l ((cu T t).map cJ)]:St)))=aa (.s x):=pG (by omega) (by rw[show(((k):aq)+1).toNat=k+1 from rfl,bE,E];rfl) (by rw[az];exact#[3,B]);have c8:(bz I C T++(H++([.l ((cu T t).map cJ)]:St))).length=(Wb H)+1+17:=lk;have c9:bz I C T++(H++([.l ((cu T t).map cJ)]:St))++[AO.l []]=bz I C T++(H++([.l ((cu T t).map cJ),.l []]:St)):=ak _;have d1:items (.l (j+17)) (bz I C T++(H++([.l ((cu T t).map cJ),.l []]:St)))=aa (J.map cJ,aa (j+17)):=by
   show(match(bz I C T++(H++([.l ((cu T t).map cJ),.l []]:St)))[j+17]? with|some (.l vs)=>_|_=>_)=_;rw[gG F];show(if bV _=ai then _ else _)=_;rw[aF (jP (by rw[az];exact#[3,d]))]
  refine ba (Tn (n:=n+52) (I:=I) (C:=C) (T:=T) #[53,V] w.wts q F J [] (bA "more" (.l ((Wb H)+1+17)) (bA "after" (.t [.s x]) (bA "pieces" (.l ((Wb H)+0+17)) (bA "place" (.i k) vars)))) W (by rw[cR];exact#["B>A0$M=`,dTe{_p_",r])
   (by rw[a_ #[0]];exact bB) (bB) (by rw[a_ #[0],a_ #[0]];exact bB)) λS e z=>?_
  rw[eF]at e;refine dY (bA "joined" (.l ((Wb H)+1+17)) S) ([.l ((cu T t).map cJ),.l ((lH J (cu T t) x).map cJ)]) ?_ (λu0=>Au ?_ ?_ ?_ (bB) ?_)
  ·rw[aG r];have km:S.lookup "more"=aa (.l ((Wb H)+1+17)):=by rw[z _ #[0] #[0]];exact bB
   apply aT Q;apply aT
   ·exact dB y (cG (P:=PR) (n:=n+116))
   ·apply aT
    ·apply dQ;apply sQ
     ·apply aS
      ·apply eu
       ·exact aO (b9 (b9 M))
       ·apply fX
        ·exact aO (b9 (bB))
        ·exact bL
        ·exact rfl
       ·exact c7
      ·exact bu
     ·exact rfl
    ·apply aT
     ·apply dQ;exact Bp bu rfl c8 c9
     ·apply aT
      ·apply gI
       ·exact aO (b9 (b9 (b9 (b9 O))))
       ·exact d1
       ·exact e
      ·apply aT
       ·exact dQ (aO km)
       ·exact cG
  ·rw[a_ #[0],z _ #[0] #[0],a_ #[0],a_ #[0],a_ #[0],a_ #[0]];exact K
  ·rw[a_ #[0],z _ #[0] #[0],a_ #[0],a_ #[0],a_ #[0],a_ #[0]];exact M
  ·rw[a_ #[0],z _ #[0] #[0],a_ #[0],a_ #[0],a_ #[0],a_ #[0]];exact N
  ·rw[be #["1cL!;tX"],gi];rfl
end
section
variable {U:ae aq} {C:aq} {T:ae Row} {H:St} {n j:af} {I:St}
noncomputable abbrev K8:ae IS:=[.a "pieces" (.f (.g "hole_pieces") [.v "host",.h (.v "host") "force" [.u (.v "types") (.v "place")]]),
   .i (.m (.b .Mult (dm (.v "joined")) (dm (.v "pieces"))) .Gt (.g "MOST_CROSSED")) [.x (.f (.g "TooDeep") [lI 2590])] [],
   .a "after" (.p [.u (.v "texts") (.b .Add (.v "place") (lI 1))]),
   .a "more" (.s []),
   .f (.v "old") (.v "joined") [.f (.v "piece") (.v "pieces") [.e (.h (.v "more") "append" [.p [.f (.g "glue") [.f (.g "glue") [.u (.v "old") (lI 0),.u (.v "piece") (lI 0)],.v "after"],.b .Add (.u (.v "old") (lI 1)) (.u (.v "piece") (lI 1))]])]],
   .a "joined" (.v "more")]
theorem mE {b:aq} (h:cP b=ai):kq "range" [.i b] I=.k (.r 0 b) I:=by show(if cP b=ai then _ else _)=_;rw[aF h]
theorem kE {a b:aq} (c:cP a=ai) (d:cP b=ai) (e:(b-a).toNat<=1000000):items (.r a b) I=aa (lr a b,ah):=by show(if(cP a&&cP b&&decide ((b-a).toNat<=limit))=ai then _ else _)=_;rw[c,d,aI (dI e #[0])];rfl
theorem yN {vs:ae AV} (h:(Wb vs)<=1000000):builtin "len" [.t vs] I=.k (.i ((Wb vs):af)) I:=by show(if bV vs=ai then R.k (AV.i (Wb vs)) _ else _)=_;rw[aF (jP h)]
theorem zR (J P:ae Pc) (x:ae af):(lH J P x).length=(Wb J)*P.length:=by unfold lH;induction J with|nil=>simp|cons o J a=>rw[jx,ar,a,az,aQ,oQ,jU,jm]
theorem Nw {J P:ae Pc} {x:ae af} {r:Pc} (h:r∈lH J P x):∃o∈J,∃q∈P,r=lZ o q x:=by unfold lH at h;refine ba (gT.mp h) λo a h=>?_;refine ba (bT.mp h) λq b h=>?_;exact tF o a q b h.symm
theorem QA {xs:ae (ae af)} {ts:ae aq} (Y:(Wb T)<=1000000) (D:(Wb ts)<=1000) (E:(Wb xs)<=1000) (Z:∀t∈ts,rM T t) (hx:∀x∈xs,(Wb x)<=100) (b:(Wb xs)=(Wb ts)+1) all:∀(m k:af) (J:ae Pc) (H:St) (j:af) (vars:ae (aC×AV)),k+m=(Wb ts)->
  (∀o∈J,o.1≠[]/\wt o+1100*m<=4000)->(Wb J)<=1000->H[j]?=aa (.l (J.map cJ))->vars.lookup "host"=aa (.l 16)->vars.lookup "texts"=aa (.t (xs.map .s))->vars.lookup "types"=aa (.t (ts.map .i))->vars.lookup "joined"=aa (.l (j+17))->
  ∃X,match kS T J (ts.drop k) (xs.drop (k+1))with
   |none=>eJ ah all (λv fr I=>dw PR (n+120) K8 {fr with v:=bA "place" v fr.v} I) (dr k m) ⟨vars,[]⟩ (bz U C T++H)=.x "TooDeep" (bz U C T++(H++X))
   |some F=>∃a f,eJ ah all (λv fr I=>dw PR (n+120) K8 {fr with v:=bA "place" v fr.v} I) (dr k m) ⟨vars,[]⟩ (bz U C T++H)=.k (.n,⟨a,[]⟩) (bz U C T++(H++X))/\a.lookup "joined"=aa (.l (f+17))/\(H++X)[f]?=aa (.l (F.map cJ))/\(f=j\/(Wb H)<=f):=by
 intro G;induction G with
 |zero=>
  exactλk J H j vars c y y K y y y L=>⟨[],by
  rw[show ts.drop k=[]from cF #[90,c]];show∃a f,_;refine qH vars j ?_ L (by rw[aJ];exact K) (.inl rfl);rw[aJ];exact iY rfl⟩
 |succ m M=>
  intro k J H j vars c z N K h1 h2 h3 L;refine ck (⟨ts[k]'#[7,c],aR #[7,c]⟩:∃t,ts[k]?=aa t) λt d=>?_;refine ck (⟨xs[k+1]'#[6,b,c],aR #[6,b,c]⟩:∃x,xs[k+1]?=aa x) λx e=>?_;have O:=bG d;have P:=hx x (bG e);have g:=Z t O;refine d9 (Qz (n:=n) (I:=U) (C:=C) Y g D E d e P (λo p=>⟨(z o p).1,by have:=(z o p).2;omega⟩) N K h1 h2 h3 L) λv1 A u e2=>?_;have d1:ts.drop k=t::ts.drop (k+1):=by rw[cD #[7,c]];congr 1;rw[aR #[7,c]]at d;exact aw d
  have d2:xs.drop (k+1)=x::xs.drop (k+1+1):=by rw[cD #[6,b,c]];congr 1;rw[aR #[6,b,c]]at e;exact aw e
  rw[d1,d2];show∃X,match(if 200<(Wb J)*(cu T t).length then ah else kS T (lH J (cu T t) x) (ts.drop (k+1)) (xs.drop (k+1+1)))with|none=>_|some F=>_
  by_cases B:200<(Wb J)*(cu T t).length
  ·rw[aF B]at u⊢;exact⟨A,UC rfl u⟩
  ·rw[aG B]at u⊢;refine Aq (e2 B) λi1 i2 i3 i4 i5=>?_;refine ck (M (k+1) (lH J (cu T t) x) (H++A) ((Wb H)+1) v1 (by exact aB #[36,c] #[37,c]) (λr hr=>by
     obtain⟨o,p,q,R,rfl⟩:=Nw hr;have w:=Hz (x:=x) (z o p).1 (g.wts q R).1;have:=(z o p).2;have:=(g.wts q R).2;exact⟨tS _ _,by omega⟩) (by rw[zR];exact#["~^q+(vLzs`Ifk;",B]) i5 i1 i2 i3 i4) λS h=>?_
   refine⟨A++S,?_⟩;rw[<-aj H A S];cases V:kS T (lH J (cu T t) x) (ts.drop (k+1)) (xs.drop (k+1+1))with|none=>rw[V]at h;exact fZ rfl u h|some F=>rw[V]at h;refine tj h ?_;clear h;intro v2 f a1 a2 a3 W;exact qH v2 f (fZ rfl u a1) a2 a3 (.inr (by rw[ar]at W;exact lz W (λQ=>#["4fR;2K`0D?",Q]) (λQ=>#[188,Q])))
end
section
variable {I:ae aq} {C:aq} {T:ae Row} {H G:St} {n j:af} {J:St}
theorem Nx {x0:ae af} {xs:ae (ae af)} {ts:ae aq} (E:(Wb T)<=1000000) (b:(Wb ts)<=3) (F:∀t∈ts,rM T t) (j:∀x∈x0::xs,(Wb x)<=100) (c:(Wb xs)=(Wb ts)):
  ∃X,match kS T [([x0],[])] ts xs with
   |none=>cg PR (n+130) "cross_holes" [] [.l 16,.t ((x0::xs).map .s),.t (ts.map .i)] (bz I C T++G)=.x "TooDeep" (bz I C T++(G++X))
   |some q=>∃d,cg PR (n+130) "cross_holes" [] [.l 16,.t ((x0::xs).map .s),.t (ts.map .i)] (bz I C T++G)=.k (.l (d+17)) (bz I C T++(G++X))/\(G++X)[d]?=aa (.l (q.map cJ))/\(Wb G)<=d:=by
 refine ck (QA (n:=n+6) (U:=I) (C:=C) (T:=T) (xs:=x0::xs) (ts:=ts) E #["1s6sbwg8z(i",b] (by rw[aQ];exact#["B>BaqImXU~))!1+i",b,c]) F j (by rw[aQ,c]) (dr 0 (Wb ts)) (Wb ts) 0 [([x0],[])] (G++([.l [cJ ([x0],[])]]:St)) (Wb G)
  [("host",.l 16),("texts",.t ((x0::xs).map .s)),("types",.t (ts.map .i)),("joined",.l ((Wb G)+0+17))] (aB #[97] #[96])
  (λo w=>by
   rw[aL]at w;refine dq w ?_;have:=j x0 aH;refine⟨by simp,?_⟩;show(1+0+pF [x0])+_<=_;rw[lQ,show pF []=0 from rfl];omega) (by simp) (by rw[be (bf _),iz];rfl) rfl rfl rfl rfl) λX h=>?_
 refine⟨([.l [cJ ([x0],[])]]:St)++X,?_⟩;rw[gB,show(x0::xs).drop (0+1)=xs from rfl]at h;rw[<-aj G];have O:du (.t ((x0::xs).map .s)) (.i 0) (bz I C T++G)=aa (.s x0):=pG (by omega) rfl (by rw[az,aQ];exact#[125,b,c]);have y:cS PR (n+128) (.a "joined" (.s [.p [.p [.u (.v "texts") (lI 0)],.p []]])) ⟨[("host",.l 16),("texts",.t ((x0::xs).map .s)),("types",.t (ts.map .i))],[]⟩ (bz I C T++G)=.k (.n,⟨[("host",.l 16),("texts",.t ((x0::xs).map .s)),("types",.t (ts.map .i)),("joined",.l ((Wb G)+0+17))],[]⟩) (bz I C T++(G++([.l [cJ ([x0],[])]]:St))):=by
  have H:=l0 (J:=I) (C:=C) (T:=T) (G:=G);have K:=a0 (J:=I) (C:=C) (T:=T) (G:=G) (.l [cJ ([x0],[])]);apply dQ (s:="joined") (I:=⟨[("host",.l 16),("texts",.t ((x0::xs).map .s)),("types",.t (ts.map .i))],[]⟩);refine Bp (us:=[cJ ([x0],[])]) (aS (sQ (us:=[.t [.s x0],.t []]) ?_ rfl) bu) rfl H K
  lcg_sub
 have P:builtin "len" [.t (ts.map .i)] (bz I C T++(G++([.l [cJ ([x0],[])]]:St)))=.k (.i ((Wb ts):af)) (bz I C T++(G++([.l [cJ ([x0],[])]]:St))):=by rw[yN (by rw[az];exact#[40,b]),az]
 have Q:=mE (I:=(bz I C T++(G++([.l [cJ ([x0],[])]]:St)))) (c_ (m:=(Wb ts)) #[40,b]);have z:items (.r 0 ((Wb ts):af)) (bz I C T++(G++([.l [cJ ([x0],[])]]:St)))=aa (dr 0 (Wb ts),ah):=by rw[kE rfl (c_ #["I_3maCwjVUtv",b]) (by omega),nJ]
 have A:bg PR (n+126) ⟨[("host",.l 16),("texts",.t ((x0::xs).map .s)),("types",.t (ts.map .i)),("joined",.l ((Wb G)+0+17))],[]⟩ (.f (.g "range") [dm (.v "types")]) (bz I C T++(G++([.l [cJ ([x0],[])]]:St)))=.k (.r 0 ((Wb ts):af)) (bz I C T++(G++([.l [cJ ([x0],[])]]:St))):=by lcg_sub
 cases B:kS T [([x0],[])] ts xs with
 |none=>rw[B]at h;replace h:eJ _ _ _ _ _ _=_:=h;apply O_ (bs:=[("host",.l 16),("texts",.t ((x0::xs).map .s)),("types",.t (ts.map .i))]) xj rfl;refine yI y ?_;refine Bd ?_;exact S7 A z h
 |some q=>
  rw[B]at h;refine tj h ?_;clear h;intro R d L M N D;refine dS d ?_ N (by rw[ar]at D;exact lz D (λe=>#[10,e]) (λe=>#[188,e]));apply bX (bs:=[("host",.l 16),("texts",.t ((x0::xs).map .s)),("types",.t (ts.map .i))]) xj rfl
  ·apply aT y;apply aT
   ·exact gI A z L
   ·apply cY;apply fi;exact aO M
  ·rfl
end
section
variable {J:ae aq} {C:aq} {T:ae Row} {H G:St} {n j:af} {I:St}
theorem QB {fr:AF} {e:IE} {b c:bD} (a:fr.v.lookup "plain"=aa (.b b)) (d:bg PR (n+1) fr e I=.k (.b c) I):tJ PR (n+3) fr .And [.v "plain",e] I=.k (.b (b&&c)) I:=by apply Fg (aO a) rfl;clear a;induction b using b_ with|true=>exact xV (op:=.And) d|false=>rfl
theorem HA {y:aC} {e:IE} {I:St} (f:AV->bD) (p:y≠"plain") (all:ae AV):∀(vs:ae AV) (b:bD) (vars:ae (aC×AV)),(∀v∈vs,∀vars,bg PR (n+1) ⟨bA y v vars,[]⟩ e I=.k (.b (f v)) I)->vars.lookup "plain"=aa (.b b)->
  ∃c,eJ ah all (λv fr I=>dw PR (n+6) [.a "plain" (.o .And [.v "plain",e])] {fr with v:=bA y v fr.v} I) vs ⟨vars,[]⟩ I=.k (.n,⟨c,[]⟩) I/\c.lookup "plain"=aa (.b (b&&vs.all f))/\∀z,z≠"plain"->z≠y->c.lookup z=vars.lookup z:=by
 intro d;induction d with|nil=>exactλb vars g h=>dS vars (iY rfl) (by rw[h];simp) (λg g g=>rfl)|cons v vs i=>intro b vars j h;refine cV (i (b&&f v) (bA "plain" (.b (b&&f v)) (bA y v vars)) (λu q=>j u (aK _ q)) (bB)) λr s t w=>?_;refine dS r (fZ rfl (aT (dQ (Ff (QB ((a_ (fR p)).trans h) (j v aH vars)))) cG) s) (by rw[t,jz,CO]) (λz l m=>by rw[w z l m,a_ l,a_ m])
noncomputable def nK (p:Pc):bD:=p.1.all (λs=>decide (s=[]))&&p.2.all λt=>decide (t=6)
noncomputable def jS (T:ae Row) (p:Pc):aq×ae Row:=if p.2=[]then((eZ T (.s (p.1.headD []) 0)).1,(eZ T (.s (p.1.headD []) 0)).2)else if nK p=ai then(6,T)else((eZ T (.t p.1 p.2)).1,(eZ T (.t p.1 p.2)).2)
theorem QC {p:Pc} (w:p.1≠[]) (r:(Wb T)<=1000000) (c:p.1.length<=10000) (a:p.2.length<=10000):cg PR (n+60) "one_template" [] [.l 6,.t (p.1.map .s),.t (p.2.map .i)] (bz J C T++G)=.k (.i (jS T p).1) (bz J C (jS T p).2++G):=by
 obtain⟨xs,ts⟩:=p;unfold jS
 match xs,w with
 |x::xs,_=>
 replace c:(x::xs).length<=10000:=c;replace a:(Wb ts)<=10000:=a
 match ts,a with
 |[],a=>
  rw[aF rfl];have z:du (.t ((x::xs).map .s)) (.i 0) (bz J C T++G)=aa (.s x):=pG (by omega) rfl (by rw[az];exact#[12,c]);have A:=λn=>Fs (n:=n) (I:=J) (C:=C) (G:=G) x r;apply bX qO rfl
  lcg_sub
 |t::ts,a=>
  rw[aG (by simp)];have z:dG .Eq (.t ((t::ts).map .i)) (.t []) (bz J C T++G)=aa aD:=rfl;have i1:=rL (R:=bz J C T++G) (I:=(x::xs).map .s) (by rw[az];exact#[12,c]);have D:=rL (R:=bz J C T++G) (I:=(t::ts).map .i) (by rw[az];exact#[12,a]);refine cV (HA (n:=n+48) (y:="text") (e:=.m (.v "text") .Eq (lS [])) (I:=bz J C T++G) (λv=>match v with|.s s=>decide (s=[])|_=>aD) #[0] ((x::xs).map .s) ((x::xs).map .s) ai
   [("tab",.l 6),("texts",.t ((x::xs).map .s)),("types",.t ((t::ts).map .i)),("plain",.b ai)] (λv f vars=>by
    obtain⟨s,_,rfl⟩:=bT.mp f;exact oi (aO (bB)) bL rfl) rfl) λv1 E B d=>?_
  refine cV (HA (n:=n+47) (y:="t") (e:=.m (.v "t") .Eq (.g "STRING")) (I:=bz J C T++G) (λv=>match v with|.i i=>decide (i=6)|_=>aD) #[0] ((t::ts).map .i) ((t::ts).map .i) _ v1 (λv f vars=>by obtain⟨s,_,rfl⟩:=bT.mp f;exact oi (aO (bB)) (cC M9) rfl) B) λh F j o=>?_;have q:(ai&&((x::xs).map AV.s).all (λv=>match v with|.s s=>decide (s=[])|_=>aD)&&((t::ts).map AV.i).all (λv=>match v with|.i i=>decide (i=6)|_=>aD))=nK (x::xs,t::ts):=by unfold nK;rw[qj,qj];rfl
  rw[q]at j;have k1:h.lookup "tab"=aa (.l 6):=by rw[o _ #[0] #[0],d _ #[0] #[0]];rfl
  have k2:h.lookup "texts"=aa (.t ((x::xs).map .s)):=by rw[o _ #[0] #[0],d _ #[0] #[0]];rfl
  have k3:h.lookup "types"=aa (.t ((t::ts).map .i)):=by rw[o _ #[0] #[0],d _ #[0] #[0]];rfl
  have H:v1.lookup "types"=aa (.t ((t::ts).map .i)):=by rw[d _ #[0] #[0]];rfl
  have A:∀n,cg PR (n+20) "TypeTable.put" [] [.l 6,.t [.i 18,.t ((x::xs).map .s),.t ((t::ts).map .i)]] (bz J C T++G)=.k (.i (eZ T (.t (x::xs) (t::ts))).1) (bz J C (eZ T (.t (x::xs) (t::ts))).2++G):=λn=>Bq (.t (x::xs) (t::ts)) r;cases u:nK (x::xs,t::ts)with
  |true=>
   rw[aF rfl];rw[u]at j;apply bX qO rfl
   lcg_sub
  |false=>
   rw[aG (by simp)];rw[u]at j;apply bX qO rfl
   lcg_sub
end
section
variable {I:ae aq} {C:aq} {T:ae Row} {H G X:St} {n j:af} {R:St}
noncomputable def i8:ae Row->ae Pc->ae aq×ae Row
 |T,[]=>([],T)
 |T,p::ps=>((jS T p).1::(i8 (jS T p).2 ps).1,(i8 (jS T p).2 ps).2)
theorem CE (T:ae Row) (r:Row):(eZ T r).2.length<=(Wb T)+1:=by unfold eZ;induction rfind T r 0 using cX with|some k=>exact eM _|none=>show(T++[r]).length<=_;rw[ar];exact bf _
theorem Ny (T:ae Row) (p:Pc):(jS T p).2.length<=(Wb T)+1:=by
 unfold jS;split
 ·exact CE _ _
 ·split
  ·exact eM _
  ·exact CE _ _
theorem QD {J:ae Pc} (t:∀o:AO,(G++o::X)[j]?=aa (.l (J.map cJ))):∀(ps:ae Pc) (a:ae aq) (T:ae Row) (vars:ae (aC×AV)),(∀p∈ps,p.1≠[]/\p.1.length<=10000/\p.2.length<=10000)->(Wb T)+(Wb ps)<=100000->(Wb a)+(Wb ps)<=100000->
  vars.lookup "tab"=aa (.l 6)->vars.lookup "made"=aa (.l ((Wb G)+0+17))->
  ∃b,eJ (aa (j+17)) (J.map cJ) (λv fr R=>dw PR (n+80) [.e (.h (.v "made") "append" [.f (.g "one_template") [.v "tab",.u (.v "joining") (lI 0),.u (.v "joining") (lI 1)]])] {fr with v:=bA "joining" v fr.v} R)
   (ps.map cJ) ⟨vars,[]⟩ (bz I C T++(G++(.l (a.map .i)::X)))=.k (.n,⟨b,[]⟩) (bz I C (i8 T ps).2++(G++(.l ((a++(i8 T ps).1).map .i)::X)))/\b.lookup "tab"=aa (.l 6)/\b.lookup "made"=aa (.l ((Wb G)+0+17)):=by
 intro m;induction m with
 |nil=>exactλa T vars w w w c d=>dS vars (by rw[show a++(i8 T []).1=a from aJ _];exact iY (fg (t _))) c d
 |cons p ps q=>
  intro a T vars x r s c d;rw[aQ]at r s;refine iK (x p aH) λp1 y z=>?_;have A:=Ny T p;refine cV (q (a++[(jS T p).1]) (jS T p).2 (bA "joining" (cJ p) vars) (λp h=>x p (aK _ h)) #[31,r,A] (by rw[ar,bj];exact#[22,s]) (by rw[a_ #[0]];exact c) (by rw[a_ #[0]];exact d)) λB e D E=>?_;refine dS B (fZ (fg (t _)) ?_ (by rw[e,aj];rfl)) D E;have F:=λn=>QC (n:=n) (J:=I) (C:=C) (G:=G++(.l (a.map .i)::X)) p1 #[17,r] y z;have H:=Nu (J:=bz I C T++(G++(.l (a.map .i)::X))) (p:=p);have K:=Nv (J:=bz I C T++(G++(.l (a.map .i)::X))) (p:=p);have L:(bz I C T++(G++(.l (a.map .i)::X)))[(Wb G)+0+17]?=aa (.l (a.map .i)):=(gk 0).trans rfl;have M:jg "list.append" (.l ((Wb G)+0+17)) [.i (jS T p).1] (bz I C (jS T p).2++(G++(.l (a.map .i)::X)))=.k .n (bz I C (jS T p).2++(G++(.l ((a++[(jS T p).1]).map .i)::X))):=by rw[Jd (k:=0) rfl (by rw[az];exact#[17,s]),dh];rfl
  refine aT (mC (mD (aO (b9 d)) L (aS (bU (cC Cy) (aS (aO (b9 c)) (aS (eu (aO (bB)) bL H) (aS (eu (aO (bB)) bL K) bu))) (jX (F _))) bu) M)) cG
end
section
variable {P:Prog} {n:af} {R:AF} {J C σ2 U:St} {f e:IE} {I:ae IE} {g:AV} {us:ae AV} {k s:aC} {t:Tgt} {ss:ae IS}
theorem Pb (h:cg P n s [] us J=.x k C):mw P (n+1) (.f s) us J=.x k C:=h
theorem HB (a:bg P n R f J=.k g C) (b:ie P n R I C=.k us σ2) (c:mw P n g us σ2=.x k U):bg P (n+1) R (.f f I) J=.x k U:=by show(bg P n R f J).bind _=_;rw[a];show(ie P n R I C).bind _=_;rw[b];exact c
theorem Nz (a:fG e=ai) (h:bg P n R e J=.x k C):cS P (n+1) (.f t e ss) R J=.x k C:=by show(gc (fG e) (bg P n R e J)).bindX _=_;rw[h,a];rfl
end
section
variable {I:ae aq} {C:aq} {T:ae Row} {H G X:St} {n j p q:af} {σ:St}
structure oP (T:ae Row) (M:ae aq):Prop where
 ids:∀t∈M,je T t
 parts:∀q∈M.flatMap (bQ T),je T q
 len:(Wb T)<=100000
 ten:10<=(Wb T)
 flat:(M.flatMap (bQ T)).length<=400
 num:(Wb M)<=100000
 kept:(gH T (df (iL T M))).length<=400
theorem QE {x0:ae af} {xs:ae (ae af)} {ts:ae aq} (m:(Wb T)<=10000) (c:(Wb ts)<=3) (z:∀t∈ts,rM T t) (A:∀x∈x0::xs,(Wb x)<=100) (b:(Wb xs)=(Wb ts)) (B:G[p]?=aa (.l ((x0::xs).map .s))) (D:G[q]?=aa (.l (ts.map .i)))
  (E:∀J,kS T [([x0],[])] ts xs=aa J->(Wb J)<=10000/\(∀p∈J,p.1≠[]/\p.1.length<=10000/\p.2.length<=10000)/\oP (i8 T J).2 (i8 T J).1):
  ∃X,cg PR (n+240) "tpl_kind" [] [.l 16,.l (p+17),.l (q+17)] (bz I C T++G)=(match kS T [([x0],[])] ts xs with
   |none=>.x "TooDeep" (bz I C T++(G++X))
   |some J=>.k (.i (cH (i8 T J).2 (i8 T J).1).1) (bz I C (cH (i8 T J).2 (i8 T J).1).2++(G++X))):=by
 refine ck (Nx (n:=n+103) (I:=I) (C:=C) (G:=G++([.l []]:St)) #[12,m] c z A b) λX d=>?_;have r:kq "tuple" [.l (p+17)] (bz I C T++(G++([.l []]:St)))=.k (.t ((x0::xs).map .s)) (bz I C T++(G++([.l []]:St))):=CA (gG B) (by rw[az,aQ];exact#[125,c,b]);have u:kq "tuple" [.l (q+17)] (bz I C T++(G++([.l []]:St)))=.k (.t (ts.map .i)) (bz I C T++(G++([.l []]:St))):=CA (gG D) (by rw[az];exact#[40,c]);have w:cS PR (n+238) (.a "tab" (.a (.v "host") "tab")) ⟨[("host",.l 16),("texts",.l (p+17)),("types",.l (q+17))],[]⟩ (bz I C T++G)=.k (.n,⟨[("host",.l 16),("texts",.l (p+17)),("types",.l (q+17)),("tab",.l 6)],[]⟩) (bz I C T++G):=by
  apply dQ (s:="tab") (I:=⟨[("host",.l 16),("texts",.l (p+17)),("types",.l (q+17))],[]⟩) (v:=.l 6)
  lcg_sub
 have y:cS PR (n+237) (.a "made" (.s [])) ⟨[("host",.l 16),("texts",.l (p+17)),("types",.l (q+17)),("tab",.l 6)],[]⟩ (bz I C T++G)=.k (.n,⟨[("host",.l 16),("texts",.l (p+17)),("types",.l (q+17)),("tab",.l 6),("made",.l ((Wb G)+0+17))],[]⟩) (bz I C T++(G++([.l []]:St))):=
  dQ (s:="made") (I:=⟨[("host",.l 16),("texts",.l (p+17)),("types",.l (q+17)),("tab",.l 6)],[]⟩) (v:=.l ((Wb G)+0+17)) (Bp bu rfl l0 (a0 _))
 cases f:kS T [([x0],[])] ts xs with
 |none=>
  rw[f]at d;replace d:cg PR (n+103+130) "cross_holes" [] [.l 16,.t ((x0::xs).map .s),.t (ts.map .i)] (bz I C T++(G++([.l []]:St)))=.x "TooDeep" _:=d;refine⟨[.l []]++X,?_⟩;rw[<-aj G];apply O_ (bs:=[("host",.l 16),("texts",.l (p+17)),("types",.l (q+17))]) Bk rfl;apply yI w;apply yI y;apply Bd;apply Nz rfl;apply HB
  ·exact cC xi
  ·apply aS
   ·exact aO rfl
   ·apply aS
    ·apply bU
     ·exact cC yK
     ·exact aS (aO rfl) bu
     ·exact nF r
    ·apply aS
     ·apply bU
      ·exact cC yK
      ·exact aS (aO rfl) bu
      ·exact nF u
     ·exact bu
  ·exact Pb d
 |some J=>
  rw[f]at d;refine cV d ?_;clear d;intro g F j h;refine iK (E J f) λg1 g2 g3=>?_;rw[ar,bj]at h;have H:∀o:AO,(G++o::X)[g]?=aa (.l (J.map cJ)):=λo=>by rw[aj,be #["4fR.zFMWkH",h]]at j;rw[be #[9,h],<-j,show g-(Wb G)=(g-(Wb G)-1)+1 by exact aB #[27,d8 _ _] #[29,ag #["HXF&(1z=g?ORrcc",h,ag #[9,h]]]];rfl
  refine cV (QD (n:=n+155) (I:=I) (C:=C) H J [] T [("host",.l 16),("texts",.l (p+17)),("types",.l (q+17)),("tab",.l 6),("made",.l ((Wb G)+0+17))] g2 #["5Hc3V,FWuO.|=G~yS0UX4zd?S",m,g1] (by rw[cR];exact#[130,g1]) rfl rfl) λO e K L=>?_;rw[eF]at e;refine ck (zQ (n:=n+132) (I:=I) (C:=C) (T:=(i8 T J).2) (G:=G++.l ((i8 T J).1.map .i)::X) (p:=(Wb G)) (ts:=(i8 T J).1) (by rw[be (bf _),iz];rfl) g3.ids g3.parts g3.len g3.ten g3.flat g3.num g3.kept) λM N=>?_;refine⟨.l ((i8 T J).1.map .i)::X++M,?_⟩;rw[<-aj G];have i1:items (.l (g+17)) (bz I C T++(G++([.l []]:St)++X))=aa (J.map cJ,aa (g+17)):=by show(match(G++([.l []]:St)++X)[g]? with|some (.l vs)=>_|_=>_)=_;rw[j];show(if bV (J.map cJ)=ai then _ else _)=_;rw[aF (jP (by rw[az];exact#[12,g1]))]
  apply bX (bs:=[("host",.l 16),("texts",.l (p+17)),("types",.l (q+17))]) Bk rfl
  ·apply aT w;apply aT y;apply aT
   ·apply gI
    ·apply bU
     ·exact cC xi
     ·apply aS
      ·exact aO rfl
      ·apply aS
       ·apply bU
        ·exact cC yK
        ·exact aS (aO rfl) bu
        ·exact nF r
       ·apply aS
        ·apply bU
         ·exact cC yK
         ·exact aS (aO rfl) bu
         ·exact nF u
        ·exact bu
     ·exact jX F
    ·exact i1
    ·rw[aj];exact e
   ·apply cY;apply fi;apply bU
    ·exact cC Cw
    ·exact aS (aO K) (aS (aO L) bu)
    ·exact jX N
  ·rfl
end
section
variable {C:St} {t b:ae af} {n:af}
theorem tT (h:(Wb t)<=1000000) {i:aq} (a:cP i=ai) (c:0<=i):slice (.s t) ah (aa (.i i)) C=.k (.s (t.take i.toNat)) C:=by show(if bV t=ai then Ew (aa 0:au af) (if cP i=ai then aa (if 0<=i then min i.toNat (Wb t)else(i+(Wb t)).toNat)else ah:au af) (λl h=>R.k (AV.s (dZ t l h)) C)else .b)=_;rw[aF (jP h),aF a,aF c];show R.k (AV.s ((t.take (min i.toNat (Wb t))).drop 0)) C=_;rw[gB,<-pO]
theorem oq (h:(Wb t)<=1000000) {i:aq} (a:cP i=ai) (c:0<=i):slice (.s t) (aa (.i i)) ah C=.k (.s (t.drop i.toNat)) C:=by
 show(if bV t=ai then Ew (if cP i=ai then aa (if 0<=i then min i.toNat (Wb t)else(i+(Wb t)).toNat)else ah:au af) (aa (Wb t):au af) (λl h=>R.k (AV.s (dZ t l h)) C)else .b)=_;rw[aF (jP h),aF a,aF c];show R.k (AV.s ((t.take (Wb t)).drop (min i.toNat (Wb t)))) C=_;rw[pe]
 congr 2
 rcases yc i.toNat (Wb t)with q|q
 ·rw[bP q]
 ·rw[kX q,Am,cF q]
theorem Dg (h:(Wb t)<=1000000) {i j:aq} (a:cP i=ai) (c:0<=i) (d:cP j=ai) (e:0<=j):slice (.s t) (aa (.i i)) (aa (.i j)) C=.k (.s (dZ t i.toNat j.toNat)) C:=by
 show(if bV t=ai then Ew (if cP i=ai then aa (if 0<=i then min i.toNat (Wb t)else(i+(Wb t)).toNat)else ah:au af) (if cP j=ai then aa (if 0<=j then min j.toNat (Wb t)else(j+(Wb t)).toNat)else ah:au af) (λl h=>R.k (AV.s (dZ t l h)) C)else .b)=_;rw[aF (jP h),aF a,aF c,aF d,aF e];show R.k (AV.s ((t.take (min j.toNat (Wb t))).drop (min i.toNat (Wb t)))) C=_;unfold dZ;rw[<-pO]
 congr 2
 rcases yc i.toNat (Wb t)with q|q
 ·rw[bP q]
 ·rw[kX q,cF (by rw[bR];exact#[1,e9 _ _]),cF (by rw[bR];exact#[5,q,e9 _ _])]
theorem mc (h:(Wb t)<=1000000):builtin "len" [.s t] C=.k (.i ((Wb t):af)) C:=by show(if bV t=ai then R.k (AV.i (Wb t)) _ else _)=_;rw[aF (jP h)]
theorem Dh (h:(Wb t)<=1000000):items (.s t) C=aa (t.map λc=>.s [c],ah):=by show(if bV t=ai then _ else _)=_;rw[aF (jP h)]
theorem K9 (a c:af):gj [a] [c]=decide (a<c):=by
 refine eH.mpr ?_;constructor
 ·intro h;cases h with|rel h=>exact h|cons h=>cases h
 ·intro h;exact .rel h
variable {i j:aq}
theorem To:dG .Lt (.i i) (.i j) C=aa (decide (i<j)):=rfl
theorem Fz:dG .Gt (.i i) (.i j) C=aa (decide (j<i)):=rfl
noncomputable def iB (t:ae af):ae af:=if t.take 1=[45]then t.drop 1 else t
theorem FA (t:ae af):(iB t).length<=(Wb t):=by unfold iB;split<;>simp
end
section
variable {C:St} {t b:ae af} {n:af}
noncomputable def goodD (c:af):bD:=!(decide (c<48)||decide (57<c))
theorem FC {test:IE} (f:af->bD) (all:ae AV):∀(cs:ae af) (vars:ae (aC×AV)),(∀c∈cs,∀vars,er PR (n+4) ⟨bA "letter" (.s [c]) vars,[]⟩ test C=.k (!f c) C)->
  ∃a,eJ ah all (λv fr C=>dw PR (n+6) [.i test [.r (.l (.b aD))] []] {fr with v:=bA "letter" v fr.v} C) (cs.map λc=>.s [c]) ⟨vars,[]⟩ C=.k (if cs.all f=ai then .n else .r (.b aD),⟨a,[]⟩) C/\∀z,z≠"letter"->a.lookup z=vars.lookup z:=by
 intro j;induction j with
 |nil=>exactλvars o=>aY vars (iY rfl) (λo o=>rfl)
 |cons c cs m=>intro vars h;have d:=h c aH vars;cases e:f c with|false=>rw[e]at d;refine aY (bA "letter" (.s [c]) vars) ?_ (λz g=>a_ g);rw[aG (by rw[jz,e];simp)];exact yJ rfl (cY (dB (r:=ai) d (cY (fi (bL (n:=n+1))))))|true=>rw[e]at d;refine ba (m (bA "letter" (.s [c]) vars) (λc d=>h c (aK _ d))) λp q t=>?_;refine aY p ?_ (λz g=>by rw[t z g,a_ g]);rw[jz,e,jA];exact fZ rfl (aT (dB (r:=aD) d (cG (n:=n+3) (P:=PR))) cG) q
noncomputable def iM (b:ae af):af:=b.foldl (λn d=>n*10+(d-48)) 0
noncomputable def x2 (t:ae af):bD:=
 if iB t=[]\/16<(iB t).length then aD else if(iB t).all goodD=aD then aD
 else if 9007199254740991<iM (iB t)\/gm (iM (iB t):af)≠iB t then aD else decide (0<iM (iB t))||decide (iB t=t)
theorem Jf:∀{b:ae af},b≠[]->b.all goodD=ai->Ax b=aa (iM b)
 |c::b,_,h=>by show(if((c::b).all λd=>decide (48<=d/\d<=57))=ai then aa (iM (c::b))else ah)=_;rw[aF];rw[cy]at h⊢;intro x a;have:=h x a;unfold goodD at this;simp only[el,gY,fw]at this;exact aI (⟨#[80,this.1],#[151,this.2]⟩)
theorem yO:∀b:ae af,b.all goodD=ai->iM b<10^(Wb b):=by
 have h:∀(b:ae af) (a:af),b.all goodD=ai->b.foldl (λn d=>n*10+(d-48)) a<(a+1)*10^(Wb b):=λb=>by induction b with|nil=>intro a i;simp|cons c b f=>intro a h;rw[jz,cB]at h;have e:=h.1;unfold goodD at e;simp only[el,gY,fw]at e;refine jZ (f _ h.2) ?_;rw[aQ,Gr,ya (10^(Wb b)) 10,<-xl];exact kB _ #["?+s|RIgsG'_;}WajmA0F!XUw;2YDi=s",e.2,ag #[80,e.1]]
 intro b g;have:=h b 0 g;rw[eQ,jU]at this;exact this
theorem QF (h:b≠[]) (a:b.all goodD=ai) (c:(Wb b)<=16):kq "int" [.s b] C=.k (.i (iM b:af)) C:=by show(if decide ((Wb b)<=16)=ai then(match Ax b with|some k=>R.k (AV.i (k:af)) C|none=>.b)else .b)=_;rw[aF (aI c),Jf h a]
theorem QG {m:af} (h:m<10^16):kq "str" [.i (m:af)] C=.k (.s (gm (m:af))) C:=by
 have gen:∀i:aq,(-(10^17)<i/\i<10^17)->kq "str" [.i i] C=.k (.s (gm i)) C:=λi a=>by show(if(cP i||decide (-(10^17)<i/\i<10^17))=ai then _ else _)=_;rw[aF (by rw[aI a,nY])]
 exact gen _ (by omega)
theorem K_ (z:(Wb t)<=1000000):cg PR (n+40) "digits_back" [] [.s t] C=.k (.b (x2 t)) C:=by
 have E:=FA t;have Z:=tT (C:=C) z (i:=1) rfl #[0];have c2:=oq (C:=C) z (i:=1) rfl #[0];have p:cS PR (n+38) (.a "body" (.i (.m (.e (.v "text") ah (aa (lI 1))) .Eq (lS [45])) (.e (.v "text") (aa (lI 1)) ah) (.v "text"))) ⟨[("text",.s t)],[]⟩ C=.k (.n,⟨[("text",.s t),("body",.s (iB t))],[]⟩) C:=by
  apply dQ (s:="body") (I:=⟨[("text",.s t)],[]⟩) (v:=.s (iB t));have w:∀r,decide (t.take 1=[45])=r->dG .Eq (.s (t.take 1)) (.s [45]) C=aa r:=λr h=>by refine dH h ?_;rfl
  unfold iB;by_cases h:t.take 1=[45]
  ·rw[aF h];replace w:=w ai (aI h)
   lcg_sub
  ·rw[aG h];replace w:=w aD (aX h)
   lcg_sub
 unfold x2;generalize iB t=b at p E⊢;have F:dG .Eq (.s b) (.s []) C=aa (decide (b=[])):=rfl;have d2:=mc (C:=C) (t:=b) #[113,z,E];have G:dG .Gt (.i ((Wb b):af)) (.i 16) C=aa (decide (16<(Wb b))):=by rw[Fz];exact aU aa (eH.mpr (by omega))
 by_cases h0:b=[]
 ·rw[aF (.inl h0)];rw[aI h0]at F;apply bX (bs:=[("text",.s t)]) mP rfl
  ·apply aT p
   lcg_sub
  ·rfl
 ·rw[aX h0]at F;by_cases u:16<(Wb b)
  ·rw[aF (.inr u)];rw[aI u]at G;apply bX (bs:=[("text",.s t)]) mP rfl
   ·apply aT p
    lcg_sub
   ·rfl
  ·rw[aG (by rintro(h|h)<;>contradiction)];rw[aX u]at G;have A:cS PR (n+37) (.i (.o .Or [.m (.v "body") .Eq (lS []),.m (dm (.v "body")) .Gt (lI 16)]) [.r (.l (.b aD))] []) ⟨[("text",.s t),("body",.s b)],[]⟩ C=.k (.n,⟨[("text",.s t),("body",.s b)],[]⟩) C:=by lcg_sub
   refine ba (FC (n:=n+29) (C:=C) (test:=.o .Or [.m (.v "letter") .Lt (lS [48]),.m (.v "letter") .Gt (lS [57])]) goodD (b.map λc=>.s [c]) b [("text",.s t),("body",.s b)] (λc u0 vars=>by
    have H:dG .Lt (.s [c]) (.s [48]) C=aa (decide (c<48)):=aU aa (K9 c 48);have J:dG .Gt (.s [c]) (.s [57]) C=aa (decide (57<c)):=aU aa (K9 57 c);unfold goodD;rw[Bool.not_not];by_cases q1:c<48
    ·rw[aI q1]at H⊢;rw[Gs]
     lcg_sub
    ·rw[aX q1]at H⊢;rw[xq];by_cases K:57<c
     ·rw[aI K]at J⊢
      lcg_sub
     ·rw[aX K]at J⊢
      lcg_sub)) λd j L=>?_
   have i1:=Dh (C:=C) (t:=b) #["BqvjZ}b~!iVsgmC;",u];cases x:b.all goodD with
   |false=>
    rw[aF rfl];rw[x]at j;replace j:eJ _ _ _ _ _ _=.k (.r (.b aD),_) C:=j;apply bX (bs:=[("text",.s t)]) mP rfl
    ·apply aT p;apply aT A;apply cY;apply gI
     ·exact aO rfl
     ·exact i1
     ·exact j
    ·rfl
   |true=>
    rw[aG (by simp)];rw[x]at j;replace j:eJ _ _ _ _ _ _=.k (.n,_) C:=j;have nl:=yO b x;have B:iM b<10^16:=jZ nl (xd #[0] #[54,u]);have k1:d.lookup "body"=aa (.s b):=by rw[L _ #[0]];rfl
    have k2:d.lookup "text"=aa (.s t):=by rw[L _ #[0]];rfl
    have i2:=QF (C:=C) h0 x #[54,u];have Q:=QG (C:=C) B;have R:dG .Gt (.i (iM b:af)) (.i 9007199254740991) C=aa (decide (9007199254740991<iM b)):=by rw[Fz];exact aU aa (eH.mpr (by omega))
    have S:dG .Gt (.i (iM b:af)) (.i 0) C=aa (decide (0<iM b)):=by rw[Fz];exact aU aa (eH.mpr (by omega))
    have T:dG .NotEq (.s (gm (iM b:af))) (.s b) C=aa (!decide (gm (iM b:af)=b)):=rfl;have U:dG .Eq (.s b) (.s t) C=aa (decide (b=t)):=rfl;have M:cS PR (n+36) (.f (.v "letter") (.v "body") [.i (.o .Or [.m (.v "letter") .Lt (lS [48]),.m (.v "letter") .Gt (lS [57])]) [.r (.l (.b aD))] []]) ⟨[("text",.s t),("body",.s b)],[]⟩ C=.k (.n,⟨d,[]⟩) C:=gI (aO rfl) i1 j;have N:cS PR (n+35) (.a "n" (.f (.g "int") [.v "body"])) ⟨d,[]⟩ C=.k (.n,⟨bA "n" (.i (iM b:af)) d,[]⟩) C:=by
     apply dQ (s:="n") (I:=⟨d,[]⟩) (v:=.i (iM b:af))
     lcg_sub
    generalize hm:iM b=m at*;generalize V:gm (m:af)=y at*;have W:∀r,decide (9007199254740991<m)=r->er PR (n+31) ⟨bA "n" (.i (m:af)) d,[]⟩ (.m (.v "n") .Gt (.g "TOP_NUMBER")) C=.k r C:=λr h=>ef (aO (bB)) (cC Fj) (by rw[R,h]);have X:∀r,(!decide (y=b))=r->er PR (n+30) ⟨bA "n" (.i (m:af)) d,[]⟩ (.m (.f (.g "str") [.v "n"]) .NotEq (.v "body")) C=.k r C:=λr h=>ef (bU (cC Pa) (aS (aO (bB)) bu) (nF Q)) (aO (b9 k1)) (by rw[T,h]);have Y:bg PR (n+32) ⟨bA "n" (.i (m:af)) d,[]⟩ (.o .Or [.m (.v "n") .Gt (lI 0),.m (.v "body") .Eq (.v "text")]) C=.k (.b (decide (0<m)||decide (b=t))) C:=by refine Ff (IL (r:=decide (0<m)) (oi (aO (bB)) bL S) rfl ?_);cases decide (0<m)with|true=>rfl|false=>exact xV (op:=.Or) (oi (aO (b9 k1)) (aO (b9 k2)) U)
    have O:∀r,(decide (9007199254740991<m)||!decide (y=b))=r->er PR (n+33) ⟨bA "n" (.i (m:af)) d,[]⟩ (.o .Or [.m (.v "n") .Gt (.g "TOP_NUMBER"),.m (.f (.g "str") [.v "n"]) .NotEq (.v "body")]) C=.k r C:=λr h=>by refine u_ (tQ (W _ rfl) ?_);refine dH h ?_;cases decide (9007199254740991<m)with|true=>rfl|false=>refine tQ (X _ rfl) ?_;cases decide (y=b)<;>rfl
    by_cases q:9007199254740991<m\/y≠b
    ·rw[aF q];have D:=O ai (by rcases q with q|q;rw[aI q];rfl;rw[aX q,wc,nY]);apply bX (bs:=[("text",.s t)]) mP rfl
     ·apply aT p;apply aT A;apply aT M;apply aT N;apply cY;exact dB (r:=ai) D (cY (fi (bL (n:=n+30))))
     ·rfl
    ·rw[aG q];have D:=O aD (by rw[aX (λh=>q (.inl h)),aI (Decidable.of_not_not λh=>q (.inr h))];rfl);apply bX (bs:=[("text",.s t)]) mP rfl
     ·apply aT p;apply aT A;apply aT M;apply aT N;apply aT
      ·exact dB (r:=aD) D (cG (n:=n+32) (P:=PR))
      ·apply cY;exact fi Y
     ·rfl
end
section
variable {C:St} {t b:ae af} {n:af}
noncomputable abbrev wP:ae af:=[57,48,48,55,49,57,57,50,53,52,55,52,48,57,57,49]
noncomputable def uH (s:ae af) (c:af):bD:=s.any λd=>decide (d=c)
noncomputable def tU (t:ae af):bD:=
 if t=[48]then ai else if iB t=[]then aD else if uH [49,50,51,52,53,54,55,56,57] ((iB t).headD 0)=aD then aD
 else if(iB t).all (uH [48,49,50,51,52,53,54,55,56,57])=aD then aD else decide ((iB t).length<16)||(decide ((iB t).length=16)&&!gj wP (iB t))
variable {c:af} {s:ae af}
theorem Di:dG .NotIn (.s [c]) (.s s) C=aa (!uH s c):=rfl
theorem QH (h:(c::s).length<=1000000):du (.s (c::s)) (.i 0) C=aa (.s [c]):=by show(if(0:aq)<=0/\(0:aq)<((c::s).length:af)/\(c::s).length<=limit then((c::s)[(0:aq).toNat]?).map λc=>AV.s [c]else ah)=_;rw[aF (dy (Int.le_refl _) (by rw[aQ];omega) (dI h #[0]))];rfl
theorem Lb (y:(Wb t)<=1000000):cg PR (n+40) "_law_number" [] [.s t] C=.k (.b (tU t)) C:=by
 have w:=FA t;have O:=tT (C:=C) y (i:=1) rfl #[0];have P:=oq (C:=C) y (i:=1) rfl #[0];have d:cS PR (n+38) (.a "body" (.i (.m (.e (.v "word") ah (aa (lI 1))) .Eq (lS [45])) (.e (.v "word") (aa (lI 1)) ah) (.v "word"))) ⟨[("word",.s t)],[]⟩ C=.k (.n,⟨[("word",.s t),("body",.s (iB t))],[]⟩) C:=by
  apply dQ (s:="body") (I:=⟨[("word",.s t)],[]⟩) (v:=.s (iB t));have x:∀r,decide (t.take 1=[45])=r->dG .Eq (.s (t.take 1)) (.s [45]) C=aa r:=λr h=>by refine dH h ?_;rfl
  unfold iB;by_cases h:t.take 1=[45]
  ·rw[aF h];replace x:=x ai (aI h)
   lcg_sub
  ·rw[aG h];replace x:=x aD (aX h)
   lcg_sub
 unfold tU;generalize iB t=b at d w⊢;have B:dG .Eq (.s t) (.s [48]) C=aa (decide (t=[48])):=rfl;have j:dG .Eq (.s b) (.s []) C=aa (decide (b=[])):=rfl;by_cases h0:t=[48]
 ·rw[aF h0];rw[aI h0]at B;apply bX (bs:=[("word",.s t)]) nH rfl
  ·apply aT d
   lcg_sub
  ·rfl
 rw[aG h0];rw[aX h0]at B;have p:cS PR (n+37) (.i (.m (.v "word") .Eq (lS [48])) [.r (.l (.b ai))] []) ⟨[("word",.s t),("body",.s b)],[]⟩ C=.k (.n,⟨[("word",.s t),("body",.s b)],[]⟩) C:=by lcg_sub
 match b,w,j,d,p with
 |[],w,j,d,p=>
  rw[aF rfl];replace j:_=aa ai:=j;apply bX (bs:=[("word",.s t)]) nH rfl
  ·apply aT d;apply aT p
   lcg_sub
  ·rfl
 |c::b,w,j,d,p=>
  rw[aG (by simp)];replace j:_=aa aD:=j;have z:(c::b).length<=1000000:=#[113,y,w]
  have Q:=QH (C:=C) z;have q:=Di (C:=C) (c:=c) (s:=[49,50,51,52,53,54,55,56,57]);show _=R.k (AV.b (if uH [49,50,51,52,53,54,55,56,57] c=aD then _ else _)) _;cases D:uH [49,50,51,52,53,54,55,56,57] c with
  |false=>
   rw[aF rfl];rw[D]at q;replace q:_=aa ai:=q;apply bX (bs:=[("word",.s t)]) nH rfl
   ·apply aT d;apply aT p
    lcg_sub
   ·rfl
  |true=>
   rw[aG (by simp)];rw[D]at q;replace q:_=aa aD:=q;have E:cS PR (n+36) (.i (.o .Or [.m (.v "body") .Eq (lS []),.m (.u (.v "body") (lI 0)) .NotIn (lS [49,50,51,52,53,54,55,56,57])]) [.r (.l (.b aD))] []) ⟨[("word",.s t),("body",.s (c::b))],[]⟩ C=.k (.n,⟨[("word",.s t),("body",.s (c::b))],[]⟩) C:=by lcg_sub
   refine ba (FC (n:=n+28) (C:=C) (test:=.m (.v "letter") .NotIn (lS [48,49,50,51,52,53,54,55,56,57])) (uH [48,49,50,51,52,53,54,55,56,57]) ((c::b).map λc=>.s [c]) (c::b) [("word",.s t),("body",.s (c::b))] (λc S vars=>ef (aO (bB)) bL Di)) λA g H=>?_;have i1:=Dh (C:=C) z;cases F:(c::b).all (uH [48,49,50,51,52,53,54,55,56,57])with
   |false=>
    rw[aF rfl];rw[F]at g;replace g:eJ _ _ _ _ _ _=.k (.r (.b aD),_) C:=g;apply bX (bs:=[("word",.s t)]) nH rfl
    ·apply aT d;apply aT p;apply aT E;apply cY;apply gI
     ·exact aO rfl
     ·exact i1
     ·exact g
    ·rfl
   |true=>
    rw[aG (by simp)];rw[F]at g;replace g:eJ _ _ _ _ _ _=.k (.n,_) C:=g;have k1:A.lookup "body"=aa (.s (c::b)):=by rw[H _ #[0]];rfl
    have G:=mc (C:=C) z;have J:dG .Lt (.i ((c::b).length:af)) (.i 16) C=aa (decide ((c::b).length<16)):=by rw[To];exact aU aa (eH.mpr (by omega))
    have K:∀m:af,dG .Eq (.i (m:af)) (.i 16) C=aa (decide (m=16)):=λm=>aU aa (eH.mpr (by omega));have L:dG .LtE (.s (c::b)) (.s wP) C=aa (!gj wP (c::b)):=rfl;have M:bg PR (n+33) ⟨A,[]⟩ (.o .Or [.m (dm (.v "body")) .Lt (lI 16),.o .And [.m (dm (.v "body")) .Eq (lI 16),.m (.v "body") .LtE (.l (.s wP))]]) C=.k (.b (decide ((c::b).length<16)||(decide ((c::b).length=16)&&!gj wP (c::b)))) C:=by
     refine Ff (IL (oi (bU (cC gn) (aS (aO k1) bu) (gM G)) bL J) rfl ?_);cases decide ((c::b).length<16)with
     |true=>rfl
     |false=>refine xV (op:=.Or) (Ff (Fg (oi (bU (cC gn) (aS (aO k1) bu) (gM G)) bL (K _)) rfl ?_));induction decide ((c::b).length=16)using b_ with|true=>exact xV (op:=.And) (oi (aO k1) bL L)|false=>rfl
    have N:cS PR (n+35) (.f (.v "letter") (.v "body") [.i (.m (.v "letter") .NotIn (lS [48,49,50,51,52,53,54,55,56,57])) [.r (.l (.b aD))] []]) ⟨[("word",.s t),("body",.s (c::b))],[]⟩ C=.k (.n,⟨A,[]⟩) C:=gI (aO rfl) i1 g;apply bX (bs:=[("word",.s t)]) nH rfl
    ·apply aT d;apply aT p;apply aT E;apply aT N;apply cY;exact fi M
    ·rfl
end
section
variable {B X:St} {I:St} {v u:AV} {C:ae AV} {l:af} {w m:ae af}
structure kT (B:St) (v:AV) (C:ae AV):Prop where
 len:∀X,builtin "len" [v] (B++X)=.k (.i ((Wb C):af)) (B++X)
 sub:∀X (j:aq) u,0<=j->C[j.toNat]?=aa u->du v (.i j) (B++X)=aa u
theorem Lc (h:(Wb C)<=1000000):kT B (.t C) C:=⟨λa=>yN h,λa a a b c=>pG b c h⟩
theorem fS {o:AO} (h:B[l]?=aa o):(B++X)[l]?=aa o:=by rw[bM (aP.mp h).1,h]
theorem Ld (b:B[l]?=aa (.l C)) (h:(Wb C)<=1000000):kT B (.l l) C:=⟨λa=>mW (fS b) h,λa a a c d=>kK (fS b) c d h⟩
theorem kT.more (S:kT B v C) (Y:St):kT (B++Y) v C:=⟨λX=>by rw[aj];exact S.len _,λX j u a b=>by rw[aj];exact S.sub _ j u a b⟩
theorem jf {o:AO}:(B++[o])[(Wb B)]?=aa o:=mu ..
theorem NA {acc:ae AV} (h:(Wb acc)<=1000000):jg "list.append" (.l (Wb B)) [v] (B++[.l acc])=.k .n (B++[.l (acc++[v])]):=by show(match(B++[AO.l acc])[(Wb B)]? with|some (.l C)=>if bV C=ai then R.k () ((B++[AO.l acc]).set (Wb B) (.l (C++[v])))else .b|_=>.b).bind _=_;rw[jf];show(if bV acc=ai then R.k () ((B++[AO.l acc]).set (Wb B) (.l (acc++[v])))else .b).bind _=_;rw[aF (jP h),show(Wb B)=(Wb B)+0 from rfl,Hy];rfl
theorem QI {a b:af} (c:(Wb w)<=1000000) (d:m≠[]) (e:a<=b) (f:b<=(Wb w)):jg "str.find" (.s w) [.s m,.i (a:af),.i (b:af)] I=.k (.i (match fe m (dZ w a b) a with|some k=>k|none=>-1)) I:=by
 have gen:∀i j:aq,(m≠[]/\0<=i/\i<=j/\j<=(Wb w))->jg "str.find" (.s w) [.s m,.i i,.i j] I=.k (.i (match fe m (dZ w i.toNat j.toNat) i.toNat with|some k=>(k:aq)|none=>-1)) I:=λi j h=>by show(if(bV w&&decide (m≠[]/\0<=i/\i<=j/\j<=(Wb w)))=ai then _ else _)=_;rw[aF (by rw[jP c,aI h];first|done|rfl)];first|done|rfl
 exact gen a b (jB d (by omega) (by omega) (by omega))
noncomputable def ve (w:ae af) (stop a:af) (m:ae af):au af:=if m=[]then(if stop<=a then ah else aa (a+1))else fe m (dZ w a stop) a
noncomputable def md (w:ae af) (stop:af):af->ae (ae af)->au (ae (ae af)×af)
 |a,[]=>aa ([],a)
 |a,m::ms=>match ve w stop a m with|none=>ah|some hit=>(md w stop (hit+(Wb m)) ms).map λr=>(dZ w a hit::r.1,r.2)
set_option tactic.hygienic true in
theorem vf:∀(s:ae af) (k p:af),fe m s k=aa p->k<=p/\p+(Wb m)<=k+(Wb s)
 |s,k,p,h=>by
  unfold fe at h;split at h
  ·rename_i hp
   cases h;refine⟨bf _,?_⟩;have:=aU fu (bC hp);rw[bR]at this;exact#["&,uqb6JtzKzZD*k",this,e9 _ _]
  ·induction s using aV with|nil=>cases h|cons c s=>have:=vf s (k+1) p h;rw[aQ];exact⟨#[9,this.1],#["S.4s,I>M(gGZ6U)Xk_",this.2]⟩
set_option tactic.hygienic true in
theorem Dj {stop a p:af} (b:stop<=(Wb w)) (c:a<=stop) (h:ve w stop a m=aa p):a<=p/\p+(Wb m)<=stop:=by
 unfold ve at h;split at h
 ·rename_i hm
  refine dq hm ?_;split at h
  ·cases h
  ·cases h;exact⟨#[95],by rw[cR];exact#["_?5soN%5g.q",(by assumption)]⟩
 ·have:=vf _ _ _ h;unfold dZ at this;rw[cj,bR]at this;exact⟨this.1,#["(J^6{bA,k`'UKR.d{3L_,g",this.2,bP b,ag #[39,c,bP b]]⟩
end
section
variable {B X:St} {v u:AV} {C:ae AV} {l n:af} {w m:ae af}
noncomputable abbrev FE:ae IS:=[.a "mark" (.u (.v "texts") (.v "place")),
 .i (.m (.v "mark") .Eq (lS [])) [.i (.m (.v "at") .GtE (.v "stop")) [.r (.l (.n))] [],
 .a "hit" (.b .Add (.v "at") (lI 1))] [.a "hit" (.h (.v "text") "find" [.v "mark",.v "at",.v "stop"]),
 .i (.m (.v "hit") .Lt (lI 0)) [.r (.l (.n))] []],
 .e (.h (.v "taken") "append" [.e (.v "text") (aa (.v "at")) (aa (.v "hit"))]),
 .a "at" (.b .Add (.v "hit") (dm (.v "mark")))]
structure Pd (vars:ae (aC×AV)) (w:ae af) (v:AV) (stop a b:af):Prop where
 text:vars.lookup "text"=aa (.s w)
 texts:vars.lookup "texts"=aa v
 stop:vars.lookup "stop"=aa (.i (stop:af))
 «at»:vars.lookup "at"=aa (.i (a:af))
 taken:vars.lookup "taken"=aa (.l b)
theorem QJ {k stop a:af} {acc:ae AV} {vars:ae (aC×AV)} (A:(Wb w)<=100000) (K:(Wb m)<=100000) (x:∀X,du v (.i (k:af)) (B++X)=aa (.s m)) (d:stop<=(Wb w)) (G:a<=stop) (y:(Wb acc)<=100000) (F:Pd vars w v stop a (Wb B)):
  ∃c,dw PR (n+60) FE ⟨bA "place" (.i (k:af)) vars,[]⟩ (B++[.l acc])=(match ve w stop a m with
   |none=>.k (.r .n,⟨c,[]⟩) (B++[.l acc])
   |some hit=>.k (.n,⟨c,[]⟩) (B++[.l (acc++[.s (dZ w a hit)])]))/\(∀hit,ve w stop a m=aa hit->Pd c w v stop (hit+(Wb m)) (Wb B)):=by
 have D:cS PR (n+59) (.a "mark" (.u (.v "texts") (.v "place"))) ⟨bA "place" (.i (k:af)) vars,[]⟩ (B++[.l acc])=.k (.n,⟨bA "mark" (.s m) (bA "place" (.i (k:af)) vars),[]⟩) (B++[.l acc]):=
  dQ (eu (aO (b9 F.texts)) (aO (bB)) (x _))
 have q:er PR (n+57) ⟨bA "mark" (.s m) (bA "place" (.i (k:af)) vars),[]⟩ (.m (.v "mark") .Eq (lS [])) (B++[.l acc])=.k (decide (m=[])) (B++[.l acc]):=ef (aO (bB)) bL rfl;have tail:∀(hit:af) (C:ae (aC×AV)),hit<=(Wb w)->C.lookup "text"=aa (.s w)->C.lookup "at"=aa (.i (a:af))->C.lookup "hit"=aa (.i (hit:af))->C.lookup "taken"=aa (.l (Wb B))->C.lookup "mark"=aa (.s m)->
   dw PR (n+58) [.e (.h (.v "taken") "append" [.e (.v "text") (aa (.v "at")) (aa (.v "hit"))]),.a "at" (.b .Add (.v "hit") (dm (.v "mark")))] ⟨C,[]⟩ (B++[.l acc])=
    .k (.n,⟨bA "at" (.i ((hit+(Wb m):af):aq)) C,[]⟩) (B++[.l (acc++[.s (dZ w a hit)])]):=λhit C L g M H N O=>by
  have o:=Dg (C:=B++[.l acc]) (t:=w) #[2,A] (i:=(a:af)) (j:=(hit:af)) (c_ #["4V(7HcRK!Avp|j1c}4Hq<;I;",A,d,G]) (by omega) (c_ #[47,A,L]) (by omega);rw[show((a:af):aq).toNat=a from rfl,show((hit:af):aq).toNat=hit from rfl]at o;exact aT (mC (mD (aO N) jf (aS (oX (aO g) (lG (aO M)) (lG (aO H)) o) bu) (NA #[2,y]))) (aT (dQ (fX (aO H) (bU (cC gn) (aS (aO O) bu) (gM (mc #[2,K]))) rfl)) cG)
 have f:=λp=>Dj (m:=m) (p:=p) d G;unfold ve at f⊢;by_cases h0:m=[]
 ·rw[aF h0]at f⊢;rw[aI h0]at q;have E:er PR (n+55) ⟨bA "mark" (.s m) (bA "place" (.i (k:af)) vars),[]⟩ (.m (.v "at") .GtE (.v "stop")) (B++[.l acc])=.k (decide (stop<=a)) (B++[.l acc]):=
   ef (aO (b9 (b9 F.at))) (aO (b9 (b9 F.stop))) (aU aa (eH.mpr (by omega)))
  by_cases g:stop<=a
  ·rw[aF g];rw[aI g]at E;refine aY (bA "mark" (.s m) (bA "place" (.i (k:af)) vars)) ?_ (λhit h=>nomatch h);exact aT D (cY (dB (r:=ai) q (cY (dB (r:=ai) E (cY (fi (bL (n:=n+52))))))))
  ·rw[aG g]at f⊢;rw[aX g]at E;have f:=f _ rfl;refine aY (bA "at" (.i ((a+1+(Wb m):af):aq)) (bA "hit" (.i ((a+1:af):aq)) (bA "mark" (.s m) (bA "place" (.i (k:af)) vars)))) ?_ ?_
   ·refine aT D (aT (dB (r:=ai) q (aT (dB (r:=aD) E (cG (n:=n+54) (P:=PR))) (aT (dQ (v:=.i ((a+1:af):aq)) (fX (aO (b9 (b9 F.at))) bL rfl)) cG))) (tail (a+1) _ #["4I0xKk!t7hpyta",d,g] ?_ ?_ (bB) ?_ ?_))
    ·exact b9 (b9 (b9 F.text))
    ·exact b9 (b9 (b9 F.at))
    ·exact b9 (b9 (b9 F.taken))
    ·exact b9 (bB)
   ·intro hit h;cases h;exact⟨b9 (b9 (b9 (b9 F.text))),b9 (b9 (b9 (b9 F.texts))),
     b9 (b9 (b9 (b9 F.stop))),bB,b9 (b9 (b9 (b9 F.taken)))⟩
 ·rw[aG h0]at f⊢;rw[aX h0]at q;have o:=QI (I:=B++[.l acc]) (w:=w) (m:=m) (a:=a) (b:=stop) #[2,A] h0 G d;have J:∀z,jg "str.find" (.s w) [.s m,.i (a:af),.i (stop:af)] (B++[.l acc])=.k (.i z) (B++[.l acc])->cS PR (n+56) (.a "hit" (.h (.v "text") "find" [.v "mark",.v "at",.v "stop"])) ⟨bA "mark" (.s m) (bA "place" (.i (k:af)) vars),[]⟩ (B++[.l acc])=.k (.n,⟨bA "hit" (.i z) (bA "mark" (.s m) (bA "place" (.i (k:af)) vars)),[]⟩) (B++[.l acc]):=λz Q=>
   dQ (KL (aO (b9 (b9 F.text))) (aS (aO (bB)) (aS (aO (b9 (b9 F.at))) (aS (aO (b9 (b9 F.stop))) bu))) Q)
  cases hf:fe m (dZ w a stop) a with
  |none=>rw[hf]at o;refine aY (bA "hit" (.i (-1)) (bA "mark" (.s m) (bA "place" (.i (k:af)) vars))) ?_ (λhit h=>nomatch h);exact aT D (cY (dB (r:=aD) q (aT (J _ o) (cY (dB (r:=ai) (ef (aO (bB)) bL rfl) (cY (fi (bL (n:=n+51)))))))))
  |some p=>
   rw[hf]at o;have f:=f p hf;have R:dG .Lt (.i (p:af)) (.i 0) (B++[.l acc])=aa aD:=aU aa (aX (by omega));refine aY (bA "at" (.i ((p+(Wb m):af):aq)) (bA "hit" (.i (p:af)) (bA "mark" (.s m) (bA "place" (.i (k:af)) vars)))) ?_ ?_
   ·refine aT D (aT (dB (r:=aD) q (aT (J _ o) (aT (dB (r:=aD) (ef (aO (bB)) bL R) (cG (n:=n+53) (P:=PR))) cG))) (tail p _ #["2%VSfLG2e.QMg)",d,f.2] ?_ ?_ (bB) ?_ ?_))
    ·exact b9 (b9 (b9 F.text))
    ·exact b9 (b9 (b9 F.at))
    ·exact b9 (b9 (b9 F.taken))
    ·exact b9 (bB)
   ·intro hit h;cases h;exact⟨b9 (b9 (b9 (b9 F.text))),b9 (b9 (b9 (b9 F.texts))),
     b9 (b9 (b9 (b9 F.stop))),bB,b9 (b9 (b9 (b9 F.taken)))⟩
theorem QK {xs:ae (ae af)} {stop:af} (z:(Wb w)<=100000) (A:∀x∈xs,(Wb x)<=100000) (S:kT B v (xs.map .s)) (g:stop<=(Wb w)) (all:ae AV):∀(q k a:af) (b:ae (ae af)) (vars:ae (aC×AV)),k+q+1=(Wb xs)->a<=stop->(Wb b)+q<=100000->Pd vars w v stop a (Wb B)->
  ∃c,match md w stop a ((xs.drop k).take q)with
   |none=>∃X,eJ ah all (λv fr σ=>dw PR (n+60) FE {fr with v:=bA "place" v fr.v} σ) (dr k q) ⟨vars,[]⟩ (B++[.l (b.map .s)])=.k (.r .n,⟨c,[]⟩) (B++X)
   |some r=>r.2<=stop/\eJ ah all (λv fr σ=>dw PR (n+60) FE {fr with v:=bA "place" v fr.v} σ) (dr k q) ⟨vars,[]⟩ (B++[.l (b.map .s)])=.k (.n,⟨c,[]⟩) (B++[.l ((b++r.1).map .s)])/\Pd c w v stop r.2 (Wb B):=by
 intro o;induction o with
 |zero=>
  exactλk a b vars f j J F=>⟨vars,by
  exact dy j (by rw[aJ];exact iY rfl) F⟩
 |succ q p=>
  intro k a b vars f j e F;refine ck (⟨xs[k]'#[81,f],aR #[81,f]⟩:∃x,xs[k]?=aa x) λx d=>?_;have t:=A x (bG d);have C:xs.drop k=x::xs.drop (k+1):=by rw[cD #[81,f]];congr 1;rw[aR #[38,f]]at d;exact aw d
  refine ba (QJ (n:=n) (k:=k) (m:=x) (acc:=b.map .s) z t (λX=>S.sub X _ _ (by omega) (by rw[show((k:af):aq).toNat=k from rfl,bE,d];rfl)) g j (by rw[az];exact#[48,e]) F) λv1 i D=>?_;rw[C,qE];unfold md;cases hh:ve w stop a x with
  |none=>rw[hh]at i;exact lg v1 ([.l (b.map .s)]) (yJ rfl i)
  |some hit=>
   rw[hh]at i;have E:=Dj g j hh;refine ck (p (k+1) (hit+(Wb x)) (b++[dZ w a hit]) v1 (aB #[126,f] #[127,f]) E.2 (by rw[ar,bj];exact#[22,e]) (D hit hh)) λG h=>?_;rw[dh]at h;refine⟨G,?_⟩;show match(md w stop (hit+(Wb x)) ((xs.drop (k+1)).take q)).map (λr=>(dZ w a hit::r.1,r.2))with|none=>_|some r=>_
   cases u:md w stop (hit+(Wb x)) ((xs.drop (k+1)).take q)with|none=>rw[u]at h;refine ck h ?_;clear h;intro X h;exact⟨X,fZ rfl i h⟩|some r=>rw[u]at h;refine iK h ?_;clear h;intro H y I;refine dy H ?_ I;rw[aj]at y;exact fZ rfl i y
end
section
variable {B X:St} {v u:AV} {I:ae AV} {l n:af} {w m:ae af}
noncomputable def FF (xs:ae (ae af)):ae (ae af):=(xs.drop 1).take ((Wb xs)-2)
noncomputable def wQ (w:ae af) (xs:ae (ae af)):au (ae (ae af)):=
 if(Wb w)<(xs.headD []).length+(xs.getLastD []).length then ah else if w.take (xs.headD []).length≠xs.headD []then ah else if w.drop ((Wb w)-(xs.getLastD []).length)≠xs.getLastD []then ah
 else(md w ((Wb w)-(xs.getLastD []).length) (xs.headD []).length (FF xs)).map λr=>r.1++[dZ w r.2 ((Wb w)-(xs.getLastD []).length)]
theorem kT.len0 (S:kT B v I):builtin "len" [v] B=.k (.i ((Wb I):af)) B:=by have:=S.len [];rwa [aJ]at this
theorem kT.sub0 (S:kT B v I) {j:aq} {u:AV} (a:0<=j) (h:I[j.toNat]?=aa u):du v (.i j) B=aa u:=by have:=S.sub [] j u a h;rwa [aJ]at this
variable {C:St}
theorem Bu {a m:af} (h:m<=10000) (b:a<=10000):items (.r (a:af) ((a+m:af):aq)) C=aa (dr a m,ah):=by
 rw[kE (c_ #["BqvjZ}b~!+?9D&VD",b]) (c_ #["q2Y&)j*}>YhkzZ^+NwedoJb*x",h,b]) (by omega)];have g:∀m k,(eY k m).map (λ(i:af)=>AV.i ((a:aq)+(i:aq)))=dr (a+k) m:=λm=>by induction m with|zero=>intro k;rfl|succ m c=>intro k;rw[iP,fj,c];rfl
 unfold lr;rw[show(((a+m):aq)-a).toNat=m by omega,qv,g];rfl
theorem Dk {a b:aq} (c:cP a=ai) (d:cP b=ai):kq "range" [.i a,.i b] C=.k (.r a b) C:=by show(if(cP a&&cP b)=ai then _ else _)=_;rw[aF (by rw[c,d];rfl)]
theorem Tp {xs:ae (ae af)} (S:kT B v (xs.map .s)) (J:2<=(Wb xs)) (E:(Wb xs)<=1000) (z:(Wb w)<=100000) (K:∀x∈xs,(Wb x)<=100000):
  ∃X,cg PR (n+80) "cut_holes" [] [.s w,v] B=.k (match wQ w xs with|none=>.n|some _=>.l (Wb B)) (B++X)/\∀r,wQ w xs=aa r->X=[.l (r.map .s)]:=by
 refine ck (⟨(Wb xs)-2,aB #["BGlN=Yqvihs)",d8 _ _] #["|WNBAs}1_jk",ag J]⟩:∃q,(Wb xs)=q+2) λq t=>?_;refine ck (⟨xs[0]'#[194,J],aR #[194,J]⟩:∃f,xs[0]?=aa f) λf L=>?_;refine ck (⟨xs[q+1]'#[183,t],aR #[183,t]⟩:∃c,xs[q+1]?=aa c) λc y=>?_;have O:xs.headD []=f:=by clear S J E y t K;induction xs using aV with|nil=>cases L|cons x xs=>exact aw L
 have Q:xs.getLastD []=c:=by rw[List.getLastD_eq_getLast?,sV,t,show q+2-1=q+1 from rfl,y];rfl
 have F:=K f (bG L);have T:=K c (bG y);unfold wQ FF;rw[O,Q,t];have c1:builtin "len" [v] B=.k (.i ((q+2:af):aq)) B:=by rw[S.len0,az,t]
 have Y:du v (.i 0) B=aa (.s f):=S.sub0 (by omega) (by rw[show((0:aq)).toNat=0 from rfl,bE,L];rfl);have Z:du v (.i ((q+1:af):aq)) B=aa (.s c):=S.sub0 (by omega) (by rw[show(((q+1):aq)).toNat=q+1 from rfl,bE,y];rfl);have c4:binop .Sub (.i ((q+2):aq)) (.i 1) B=.k (.i ((q+1):aq)) B:=by show R.k (AV.i (((q+2):aq)-1)) B=_;rw[show((q+2):aq)-1=((q+1):aq)by omega]
 have M:cS PR (n+78) (.a "last" (.b .Sub (dm (.v "texts")) (lI 1))) ⟨[("text",.s w),("texts",v)],[]⟩ B=.k (.n,⟨[("text",.s w),("texts",v),("last",.i ((q+1):aq))],[]⟩) B:=
  dQ (fX (bU (cC gn) (aS (aO rfl) bu) (gM c1)) bL c4)
 have N:cS PR (n+77) (.a "first_end" (dm (.u (.v "texts") (lI 0)))) ⟨[("text",.s w),("texts",v),("last",.i ((q+1):aq))],[]⟩ B=.k (.n,⟨[("text",.s w),("texts",v),("last",.i ((q+1):aq)),("first_end",.i (Wb f))],[]⟩) B:=
  dQ (bU (cC gn) (aS (eu (aO rfl) bL Y) bu) (gM (mc #[2,F])))
 have G:cS PR (n+76) (.a "stop" (.b .Sub (dm (.v "text")) (dm (.u (.v "texts") (.v "last"))))) ⟨[("text",.s w),("texts",v),("last",.i ((q+1):aq)),("first_end",.i (Wb f))],[]⟩ B=.k (.n,⟨[("text",.s w),("texts",v),("last",.i ((q+1):aq)),("first_end",.i (Wb f)),("stop",.i (((Wb w))-(Wb c)))],[]⟩) B:=
  dQ (fX (bU (cC gn) (aS (aO rfl) bu) (gM (mc #[2,z]))) (bU (cC gn) (aS (eu (aO rfl) (aO rfl) Z) bu) (gM (mc #[2,T]))) rfl)
 have H:er PR (n+72) ⟨[("text",.s w),("texts",v),("last",.i ((q+1):aq)),("first_end",.i (Wb f)),("stop",.i (((Wb w))-(Wb c)))],[]⟩ (.m (.v "stop") .Lt (.v "first_end")) B=.k (decide ((Wb w)<(Wb f)+(Wb c))) B:=
  ef (aO rfl) (aO rfl) (aU aa (eH.mpr (by omega)))
 by_cases A:(Wb w)<(Wb f)+(Wb c)
 ·rw[aF A];rw[aI A]at H;refine aY ([]) ?_ (λr h=>nomatch h);rw[aJ];apply bX rA rfl
  ·apply aT M;apply aT N;apply aT G;apply cY;apply dB
   ·exact u_ (tQ H rfl)
   ·apply cY;apply fi;exact bL
  ·rfl
 rw[aG A];rw[aX A]at H;refine ck (⟨_,rfl⟩:∃st,st=(Wb w)-(Wb c)) λst d=>?_;rw[show(Wb w)-((Wb c):aq)=st by omega]at G H;rw[<-d];have c5:=tT (C:=B) #[2,z] (i:=((Wb f):af)) (c_ #[2,F]) (by omega);have c6:=oq (C:=B) #[2,z] (i:=(st:af)) (c_ #[106,z,d,bY _ _]) (by omega);rw[show(((Wb f)):aq).toNat=(Wb f)from rfl]at c5;rw[show((st):aq).toNat=st from rfl]at c6;have T2:er PR (n+71) ⟨[("text",.s w),("texts",v),("last",.i ((q+1):aq)),("first_end",.i (Wb f)),("stop",.i st)],[]⟩ (.m (.e (.v "text") ah (aa (.v "first_end"))) .NotEq (.u (.v "texts") (lI 0))) B=.k (!decide (w.take (Wb f)=f)) B:=
  ef (oX (aO rfl) oM (lG (aO rfl)) c5) (eu (aO rfl) bL Y) rfl
 have T3:er PR (n+70) ⟨[("text",.s w),("texts",v),("last",.i ((q+1):aq)),("first_end",.i (Wb f)),("stop",.i st)],[]⟩ (.m (.e (.v "text") (aa (.v "stop")) ah) .NotEq (.u (.v "texts") (.v "last"))) B=.k (!decide (w.drop st=c)) B:=
  ef (oX (aO rfl) (lG (aO rfl)) oM c6) (eu (aO rfl) (aO rfl) Z) rfl
 have D:er PR (n+74) ⟨[("text",.s w),("texts",v),("last",.i ((q+1):aq)),("first_end",.i (Wb f)),("stop",.i st)],[]⟩ (.o .Or [.m (.v "stop") .Lt (.v "first_end"),.m (.e (.v "text") ah (aa (.v "first_end"))) .NotEq (.u (.v "texts") (lI 0)),.m (.e (.v "text") (aa (.v "stop")) ah) .NotEq (.u (.v "texts") (.v "last"))]) B=.k (!decide (w.take (Wb f)=f)||!decide (w.drop st=c)) B:=by refine u_ (tQ H (tQ T2 ?_));induction decide (w.take (Wb f)=f)using b_ with|false=>rfl|true=>refine tQ T3 ?_;cases decide (w.drop st=c)<;>rfl
 by_cases hh:w.take (Wb f)=f/\w.drop st=c
 ·rw[aG (λh=>h hh.1),aG (λh=>h hh.2)];rw[aI hh.1,aI hh.2]at D;replace D:_=R.k aD B:=D;refine ck (QK (n:=n+11) z K S #[57,d,bY _ _] (dr 1 q) q 1 (Wb f) [] [("text",.s w),("texts",v),("last",.i ((q+1):aq)),("first_end",.i (Wb f)),("stop",.i st),("taken",.l (Wb B)),("at",.i (Wb f))] (aB #["BR06;NkB3bz&{",t] #["1d^GR$1WI<sw|Q",t]) #["K6X%JhfZUm.s7DgEOf~",A,d,d8 _ _] (by rw[cR];exact#["1E~L%&`h|1>SPy2^<Pwt6XE",E,t]) ⟨rfl,rfl,rfl,rfl,rfl⟩) λv' h=>?_;have c7:=Dk (C:=B++[.l []]) (a:=1) rfl (c_ #["B$?E9Fk|9'EiBh08mIJhsTM",E,t]);have c8:items (.r 1 ((q+1:af):aq)) (B++[.l []])=aa (dr 1 q,ah):=by rw[jm q 1];exact Bu #[".`R=IH^DqHk`%Zn5rWB;",E,t] #["Qkp81nM"]
  have s4:cS PR (n+75) (.i (.o .Or [.m (.v "stop") .Lt (.v "first_end"),.m (.e (.v "text") ah (aa (.v "first_end"))) .NotEq (.u (.v "texts") (lI 0)),.m (.e (.v "text") (aa (.v "stop")) ah) .NotEq (.u (.v "texts") (.v "last"))]) [.r (.l (.n))] []) ⟨[("text",.s w),("texts",v),("last",.i ((q+1):aq)),("first_end",.i (Wb f)),("stop",.i st)],[]⟩ B=.k (.n,⟨[("text",.s w),("texts",v),("last",.i ((q+1):aq)),("first_end",.i (Wb f)),("stop",.i st)],[]⟩) B:=by
   apply dB
   ·exact D
   ·exact cG (P:=PR) (n:=n+73)
  have s5:cS PR (n+74) (.a "taken" (.s [])) ⟨[("text",.s w),("texts",v),("last",.i ((q+1:af):aq)),("first_end",.i ((Wb f):af)),("stop",.i (st:af))],[]⟩ B=.k (.n,⟨[("text",.s w),("texts",v),("last",.i ((q+1:af):aq)),("first_end",.i ((Wb f):af)),("stop",.i (st:af)),("taken",.l (Wb B))],[]⟩) (B++[.l []]):=dQ (jQ bu rfl);have s6:cS PR (n+73) (.a "at" (.v "first_end")) ⟨[("text",.s w),("texts",v),("last",.i ((q+1:af):aq)),("first_end",.i ((Wb f):af)),("stop",.i (st:af)),("taken",.l (Wb B))],[]⟩ (B++[.l []])=.k (.n,⟨[("text",.s w),("texts",v),("last",.i ((q+1:af):aq)),("first_end",.i ((Wb f):af)),("stop",.i (st:af)),("taken",.l (Wb B)),("at",.i ((Wb f):af))],[]⟩) (B++[.l []]):=dQ (aO rfl);have e7:bg PR (n+71) ⟨[("text",.s w),("texts",v),("last",.i ((q+1:af):aq)),("first_end",.i ((Wb f):af)),("stop",.i (st:af)),("taken",.l (Wb B)),("at",.i ((Wb f):af))],[]⟩ (.f (.g "range") [lI 1,.v "last"]) (B++[.l []])=.k (.r 1 ((q+1:af):aq)) (B++[.l []]):=bU (cC mV) (aS bL (aS (aO rfl) bu)) (nF c7);show∃X,cg _ _ _ _ _ _=R.k (match(md w st (Wb f) ((xs.drop 1).take q)).map (λr=>r.1++[dZ w r.2 st])with|none=>_|some _=>_) _/\∀r,(md w st (Wb f) ((xs.drop 1).take q)).map (λr=>r.1++[dZ w r.2 st])=aa r->_;cases U:md w st (Wb f) ((xs.drop 1).take q)with
  |none=>
   rw[U]at h;refine ck h ?_;clear h;intro X h;refine aY X ?_ (λr h=>nomatch h);apply bX rA rfl
   ·apply aT M;apply aT N;apply aT G;apply aT s4;apply aT s5;apply aT s6;apply cY;exact gI e7 c8 h
   ·rfl
  |some r=>
   rw[U]at h;refine iK h ?_;clear h;intro g1 g2 g3;rw[eF]at g2;refine aY ([.l ((r.1++[dZ w r.2 st]).map .s)]) ?_ (λr' h=>by rw[<-aw h]);have c9:=Dg (C:=B++[.l (r.1.map .s)]) #[2,z] (i:=(r.2:af)) (j:=(st:af)) (c_ #["2wh;6DyLl=,B3)9}sEscdqF0_5yi",z,d,g1,bY _ _]) (by omega) (c_ #[106,z,d,bY _ _]) (by omega);rw[show((r.2):aq).toNat=r.2 from rfl,show((st):aq).toNat=st from rfl]at c9;have V:r.1.length<=1000000:=by
    have g:∀(I:ae (ae af)) (a:af) (r:ae (ae af)×af),md w st a I=aa r->r.1.length=(Wb I):=λI=>by
     induction I with
     |nil=>intro a r h;rw[<-aw h]
     |cons m I ih=>intro a r h;unfold md at h;cases hp:ve w st a m with|none=>rw[hp]at h;cases h|some p=>rw[hp]at h;refine ba (bK.mp h) λr' A W=>?_;refine dH W ?_;exact aU (·+1) (ih _ _ A)
    rw[g _ _ _ U,bR];exact#["q2Y&&!KU$z4bnT=>USkOFwCu6",E,t,cZ _ _]
   apply bX rA rfl
   ·apply aT M;apply aT N;apply aT G;apply aT s4;apply aT s5;apply aT s6;apply aT
    ·exact gI e7 c8 g2
    ·apply aT
     ·exact mC (mD (aO g3.taken) jf (aS (oX (aO g3.text) (lG (aO g3.at)) (lG (aO g3.stop)) c9) bu) (NA (by rw[az];exact V)))
     ·rw[dh];apply cY;exact fi (aO g3.taken)
   ·rfl
 ·have T5:(!decide (w.take (Wb f)=f)||!decide (w.drop st=c))=ai:=by
   by_cases a:w.take (Wb f)=f
   ·rw[aX (λb=>hh ⟨a,b⟩),wc,nY]
   ·rw[aX a];rfl
  rw[T5]at D;have hn:(if w.take (Wb f)≠f then ah else if w.drop st≠c then ah else(md w st (Wb f) ((xs.drop 1).take (q+2-2))).map λr=>r.1++[dZ w r.2 st])=ah:=by
   by_cases a:w.take (Wb f)=f
   ·rw[aG (λh=>h a),aF (λb=>hh ⟨a,b⟩)]
   ·rw[aF a]
  rw[hn];refine aY ([]) ?_ (λr h=>nomatch h);rw[aJ];apply bX rA rfl
  ·apply aT M;apply aT N;apply aT G;apply cY;apply dB
   ·exact D
   ·apply cY;apply fi;exact bL
  ·rfl
end
section
variable {B X:St} {v u I:AV} {vs:ae AV} {l n:af} {w m:ae af} {C:St}
theorem FG {y:aC} {test:IE} (b:ae (aC×AV)->Prop) (o:∀vars v,b vars->b (bA y v vars)) (bad:af->bD) (all:ae AV):∀(m k:af) (vars:ae (aC×AV)),(∀j,k<=j->j<k+m->∀vars,b vars->er PR (n+10) ⟨bA y (.i (j:af)) vars,[]⟩ test C=.k (bad j) C)->b vars->
  ∃a,eJ ah all (λv fr C=>dw PR (n+12) [.i test [.r (.l (.n))] []] {fr with v:=bA y v fr.v} C) (dr k m) ⟨vars,[]⟩ C=.k (if(eY k m).all (λj=>!bad j)=ai then .n else .r .n,⟨a,[]⟩) C/\b a:=by
 intro d;induction d with
 |zero=>exactλk vars w g=>aY vars (iY rfl) g
 |succ m f=>intro k vars h g;have c:=h k (bf _) #["HKGmV((k"] vars g;rw[iP,jz];cases e:bad k with|true=>rw[e]at c;refine aY (bA y (.i k) vars) ?_ (o _ _ g);rw[aG (by simp)];exact yJ rfl (cY (dB c (cY (fi (bL)))))|false=>rw[e]at c;refine ba (f (k+1) (bA y (.i k) vars) (λj p q=>h j #[9,p] #["Hdr)tP^`+f9?gKc",q]) (o _ _ g)) λs t u=>?_;rw[wc,jA];exact aY s (fZ rfl (aT (dB c (cG (n:=n+9) (P:=PR))) cG) t) u
def iC (o:au (ae (ae af))) (val:AV) (C:St):Prop:=match o with|none=>val=.n|some r=>∃l,val=.l l/\C[l]?=aa (.l (r.map .s))
noncomputable def x3 (f:ae af->bD) (ts:ae aq) (r:ae (ae af)):bD:=(eY 0 (Wb ts)).all λj=>!(decide (ts[j]?=aa 7)&&!f ((r[j]?).getD []))
noncomputable def Bw (f:ae af->bD) (ts:ae aq):au (ae (ae af))->au (ae (ae af))
 |none=>ah
 |some r=>if x3 f ts r=ai then aa r else ah
noncomputable def x4 (w:ae af) (xs:ae (ae af)) (ts:ae aq):au (ae (ae af)):=if ts=[]then(if w=xs.headD []then aa []else ah)else Bw x2 ts (wQ w xs)
theorem HD {fn tk y:aC} {f:ae af->bD} {r:ae (ae af)} {ts:ae aq} {j a:af} {vars:ae (aC×AV)} {t:aq} {x:ae af} (c:"types"≠y) (d:tk≠y) (e:PR.g fn=aa (.f fn)) (w:∀n,cg PR (n+40) fn [] [.s x] C=.k (.b (f x)) C) (p:ts[j]?=aa t) (q:r[j]?=aa x)
  (z:vars.lookup "types"=aa I) (A:vars.lookup tk=aa (.l a)) (B:du I (.i (j:af)) C=aa (.i t)) (D:du (.l a) (.i (j:af)) C=aa (.s x)):
  er PR (n+50) ⟨bA y (.i (j:af)) vars,[]⟩ (.o .And [.m (.u (.v "types") (.v y)) .Eq (.g "NUMBER"),.t (.f (.g fn) [.u (.v tk) (.v y)])]) C=.k (decide (ts[j]?=aa 7)&&!f ((r[j]?).getD [])) C:=by
 have E:er PR (n+48) ⟨bA y (.i j) vars,[]⟩ (.m (.u (.v "types") (.v y)) .Eq (.g "NUMBER")) C=.k (decide (ts[j]?=aa 7)) C:=by refine ef (eu (aO ((a_ c).trans z)) (aO (bB)) B) (cC M_) ?_;rw[p];exact aU aa (eH.mpr ⟨λh=>by rw[h],λh=>aw h⟩)
 refine u_ (lu E ?_);rw[q];induction decide (ts[j]?=aa 7)using b_ with
 |false=>rfl
 |true=>
  have F:er PR (n+47) ⟨bA y (.i j) vars,[]⟩ (.t (.f (.g fn) [.u (.v tk) (.v y)])) C=.k (!f x) C:=
   IM (KC (bU (cC e) (aS (eu (aO ((a_ d).trans A)) (aO (bB)) D) bu) (jX (w _))) rfl)
  refine lu F ?_;show(bif !f x then _ else _)=R.k (!f x) C;cases f x<;>rfl
end
section
variable {B X:St} {v u C:AV} {vs:ae AV} {l n:af} {w m:ae af} {I:St}
theorem NB {st:af}:∀(c:ae (ae af)) (a:af) (r:ae (ae af)×af),md w st a c=aa r->r.1.length=(Wb c)/\∀x∈r.1,(Wb x)<=(Wb w):=by
 intro d;induction d with
 |nil=>exactλa r h=>by cases h;exact⟨rfl,λx b=>nomatch b⟩
 |cons m c e=>
  intro a r h;unfold md at h;cases g:ve w st a m with
  |none=>rw[g]at h;cases h
  |some p=>
   rw[g]at h;refine ba (bK.mp h) λj i f=>?_;clear h;refine dH f ?_;refine dp (e _ _ i) λg1 g2=>?_;refine⟨aU (·+1) g1,λx b=>?_⟩;rcases bw.mp b with rfl|b
   ·unfold dZ;rw[cj,bR];exact#[5,e9 _ _,bY _ _]
   ·exact g2 x b
theorem NC {xs r:ae (ae af)} (a:2<=(Wb xs)) (h:wQ w xs=aa r):(Wb r)+1=(Wb xs)/\∀x∈r,(Wb x)<=(Wb w):=by
 unfold wQ at h;split at h
 ·cases h
 ·split at h
  ·cases h
  ·split at h
   ·cases h
   ·refine ba (bK.mp h) λe d c=>?_;clear h;refine dH c ?_;refine dp (NB _ _ _ d) λg1 g2=>?_;refine⟨?_,λx b=>?_⟩
    ·rw[ar,g1,bj];unfold FF;rw[bR,cj];exact aB #["71AitGf2T|Pet`c%6",ag a,bP #[145,ag a,ag #[195,a]]] #["^blKbq$mQPXGQY7Ww",ag a,bP #[145,ag a,ag #[195,a]]]
    ·rcases b7.mp b with b|b
     ·exact g2 x b
     ·rw[aL]at b;refine dq b ?_;unfold dZ;rw[cj,bR];exact#[5,e9 _ _,bY _ _]
structure MF (vars:ae (aC×AV)) (C:AV) (tk:aC) (a:af):Prop where
 types:vars.lookup "types"=aa C
 cut:vars.lookup tk=aa (.l a)
theorem ND {xs:ae (ae af)} {ts:ae aq} (S:kT B v (xs.map .s)) (St:kT B C (ts.map .i)) (b:(Wb xs)=(Wb ts)+1) (q:(Wb ts)<=900) (L:(Wb w)<=100000) (M:∀x∈xs,(Wb x)<=100000):
  ∃val X,cg PR (n+100) "tpl_match" [] [.l 16,.s w,v,C] B=.k val (B++X)/\iC (x4 w xs ts) val (B++X):=by
 have U:builtin "len" [C] B=.k (.i ((Wb ts):af)) B:=by rw[St.len0,az]
 have V:∀X,builtin "len" [C] (B++X)=.k (.i ((Wb ts):af)) (B++X):=λX=>by rw[St.len,az]
 have e:er PR (n+97) ⟨[("host",.l 16),("text",.s w),("texts",v),("types",C)],[]⟩ (.m (dm (.v "types")) .Eq (lI 0)) B=.k (decide (ts=[])) B:=by refine ef (bU (cC gn) (aS (aO rfl) bu) (gM U)) bL (aU aa (eH.mpr ?_));rw[<-e_];omega
 unfold x4;by_cases h0:ts=[]
 ·rw[aF h0];rw[aI h0]at e;refine ck (by rw[h0,cR]at b;exact lT.mp b:∃x,xs=[x]) λx G=>?_;clear b M;obtain rfl:=G;have W:du v (.i 0) B=aa (.s x):=S.sub0 (by omega) rfl;have z:er PR (n+94) ⟨[("host",.l 16),("text",.s w),("texts",v),("types",C)],[]⟩ (.m (.v "text") .Eq (.u (.v "texts") (lI 0))) B=.k (decide (w=x)) B:=ef (aO rfl) (eu (aO rfl) bL W) rfl;by_cases A:w=x
  ·rw[aI A]at z;refine dY (.l (Wb B)) ([.l []]) ?_ (by show iC (if w=x then aa []else ah) _ _;rw[aF A];exact aY _ rfl jf);apply bX (bs:=[("host",.l 16),("text",.s w),("texts",v),("types",C)]) oO rfl
   ·apply cY;apply dB (r:=ai)
    ·exact e
    ·apply cY;apply fi;apply A_ (r:=ai)
     ·exact z
     ·refine nG ?_;exact jQ bu rfl
   ·rfl
  ·rw[aX A]at z;refine dY .n ([]) ?_ (by show iC (if w=x then aa []else ah) _ _;rw[aG A];exact rfl);rw[aJ];apply bX (bs:=[("host",.l 16),("text",.s w),("texts",v),("types",C)]) oO rfl
   ·apply cY;apply dB (r:=ai)
    ·exact e
    ·apply cY;apply fi;apply A_ (r:=aD)
     ·exact z
     ·refine ix ?_;exact bL
   ·rfl
 ·rw[aG h0];rw[aX h0]at e;have c:(Wb ts)≠0:=λh=>h0 (e_.mp h);refine ba (Tp (n:=n+14) S #[152,b,bW #[4] (fR c)] #["7PpT^,+<k=1hQ>*G2ME9",b,q] L M) λX p Y=>?_;have H:cS PR (n+98) (.i (.m (dm (.v "types")) .Eq (lI 0)) [.r (.i (.m (.v "text") .Eq (.u (.v "texts") (lI 0))) (.s []) (.l (.n)))] []) ⟨[("host",.l 16),("text",.s w),("texts",v),("types",C)],[]⟩ B=.k (.n,⟨[("host",.l 16),("text",.s w),("texts",v),("types",C)],[]⟩) B:=by
   apply dB (r:=aD)
   ·exact e
   ·exact cG (P:=PR) (n:=n+96)
  have J:∀val,cg PR (n+14+80) "cut_holes" [] [.s w,v] B=.k val (B++X)->cS PR (n+97) (.a "taken" (.f (.g "cut_holes") [.v "text",.v "texts"])) ⟨[("host",.l 16),("text",.s w),("texts",v),("types",C)],[]⟩ B=.k (.n,⟨[("host",.l 16),("text",.s w),("texts",v),("types",C),("taken",val)],[]⟩) (B++X):=λval h=>dQ (s:="taken") (I:=⟨[("host",.l 16),("text",.s w),("texts",v),("types",C)],[]⟩) (bU (cC GI) (aS (aO rfl) (aS (aO rfl) bu)) (jX h));cases D:wQ w xs with
  |none=>
   rw[D]at p;refine dY .n X ?_ rfl;apply bX (bs:=[("host",.l 16),("text",.s w),("texts",v),("types",C)]) oO rfl
   ·apply aT H;apply aT (J _ p);apply cY;apply dB (r:=ai)
    ·exact ef (aO rfl) bL rfl
    ·apply cY;apply fi;exact bL
   ·rfl
  |some r=>
   rw[D]at p;have Z:=Y r D;subst Z;refine dp (NC #[152,b,bW #[4] (fR c)] D) λK r2=>?_;refine ba (FG (n:=n+82) (C:=B++[.l (r.map .s)]) (y:="place") (test:=.o .And [.m (.u (.v "types") (.v "place")) .Eq (.g "NUMBER"),.t (.f (.g "digits_back") [.u (.v "taken") (.v "place")])]) (λvars=>MF vars C "taken" (Wb B))
    (λvars v h=>⟨b9 h.types,b9 h.cut⟩) (λj=>decide (ts[j]?=aa 7)&&!x2 ((r[j]?).getD [])) (dr 0 (Wb ts)) (Wb ts) 0 [("host",.l 16),("text",.s w),("texts",v),("types",C),("taken",.l (Wb B))] (λj u0 E vars F=>by
     obtain⟨t,N⟩:∃t,ts[j]?=aa t:=⟨ts[j]'#[60,E],aR #[60,E]⟩
     obtain⟨x,d⟩:∃x,r[j]?=aa x:=⟨r[j]'#[46,b,K,E],aR #[46,b,K,E]⟩
     refine HD (n:=n+42) #[0] #[0] DR (λn=>K_ (by have:=r2 x (bG d);exact#[47,L,this])) N d F.types F.cut (St.sub _ _ _ (by omega) (by rw[show((j:af):aq).toNat=j from rfl,bE,N];rfl)) (kK jf (by omega) (by rw[show((j:af):aq).toNat=j from rfl,bE,d];rfl) (by rw[az];exact#["7Hgr`4n4Or`OKvD*Wf<cyl:?QB=",b,q,K]))) ⟨rfl,rfl⟩) λv' f1 f2=>?_
   have c3:=mE (I:=B++[.l (r.map .s)]) (c_ (m:=(Wb ts)) #[75,q]);have O:items (.r 0 ((Wb ts):af)) (B++[.l (r.map .s)])=aa (dr 0 (Wb ts),ah):=by rw[kE rfl (c_ #[75,q]) (by omega),nJ]
   have Q:cS PR (n+96) (.i (.m (.v "taken") .Is (.l (.n))) [.r (.l (.n))] []) ⟨[("host",.l 16),("text",.s w),("texts",v),("types",C),("taken",.l (Wb B))],[]⟩ (B++[.l (r.map .s)])=.k (.n,⟨[("host",.l 16),("text",.s w),("texts",v),("types",C),("taken",.l (Wb B))],[]⟩) (B++[.l (r.map .s)]):=by
    apply dB (r:=aD)
    ·exact ef (aO rfl) bL rfl
    ·exact cG (P:=PR) (n:=n+94)
   have R:bg PR (n+94) ⟨[("host",.l 16),("text",.s w),("texts",v),("types",C),("taken",.l (Wb B))],[]⟩ (.f (.g "range") [dm (.v "types")]) (B++[.l (r.map .s)])=.k (.r 0 ((Wb ts):af)) (B++[.l (r.map .s)]):=
    bU (cC mV) (aS (bU (cC gn) (aS (aO rfl) bu) (gM (V _))) bu) (nF c3)
   show∃val X,_/\iC (if x3 x2 ts r=ai then aa r else ah) val (B++X);unfold x3;cases T:(eY 0 (Wb ts)).all λj=>!(decide (ts[j]?=aa 7)&&!x2 ((r[j]?).getD []))with
   |true=>
    rw[T]at f1;refine dY (.l (Wb B)) ([.l (r.map .s)]) ?_ (aY _ rfl jf);apply bX (bs:=[("host",.l 16),("text",.s w),("texts",v),("types",C)]) oO rfl
    ·apply aT H;apply aT (J _ p);apply aT Q;apply aT
     ·exact gI R O f1
     ·apply cY;exact fi (aO f2.cut)
    ·rfl
   |false=>
    rw[T]at f1;refine dY .n ([.l (r.map .s)]) ?_ rfl;apply bX (bs:=[("host",.l 16),("text",.s w),("texts",v),("types",C)]) oO rfl
    ·apply aT H;apply aT (J _ p);apply aT Q;apply cY;exact gI R O f1
    ·rfl
end
section
variable {B X:St} {v u tv:AV} {vs:ae AV} {l n N p:af} {w r m:ae af} {C:St}
noncomputable def nM (r:ae af) (f:af->au (ae (ae af))):ae aq->au (ae (ae af))
 |[]=>ah
 |s::ss=>if 0<=s/\s<=(Wb r)then(match f s.toNat with
  |some t=>aa (r.take s.toNat::t)
  |none=>nM r f ss)else nM r f ss
structure LC (vars:ae (aC×AV)) (r:ae af) (v:AV) (p:af):Prop where
 rest:vars.lookup "rest"=aa (.s r)
 texts:vars.lookup "texts"=aa v
 place:vars.lookup "place"=aa (.i (p:af))
theorem LC.upd {vars:ae (aC×AV)} (h:LC vars r v p) x (u:AV) (a:"rest"≠x) (b:"texts"≠x) (c:"place"≠x):LC (bA x u vars) r v p:=⟨(a_ a).trans h.rest,(a_ b).trans h.texts,(a_ c).trans h.place⟩
noncomputable abbrev Le:ae IS:=[.i (.M (lI 0) .LtE (.v "size") .LtE (dm (.v "rest"))) [.a "tail" (.f (.g "_law_cut") [.e (.v "rest") (aa (.v "size")) ah,.v "texts",.b .Add (.v "place") (lI 1)]),
 .i (.m (.v "tail") .IsNot (.l (.n))) [.r (.b .Add (.s [.e (.v "rest") ah (aa (.v "size"))]) (.v "tail"))] []] []]
theorem FH {i j:aq}:dG .LtE (.i i) (.i j) C=aa (decide (i<=j)):=rfl
theorem NE {a b:af} {xs c:ae AV} (d:C[a]?=aa (.l xs)) (e:C[b]?=aa (.l c)) (h:(Wb xs)+(Wb c)<=1000000):binop .Add (.l a) (.l b) C=.k (.l (Wb C)) (C++[.l (xs++c)]):=by show(match C[a]?,C[b]? with|some (.l xs),aa (.l c)=>(if bV (xs++c)=ai then alloc C (.l (xs++c))else .b)|_,_=>.b)=_;rw[d,e];show(if bV (xs++c)=ai then _ else _)=_;rw[aF (jP (by rw[ar];exact h))];rfl
theorem QL (A:(Wb r)<=100000) (f:af->au (ae (ae af))) (D:∀s t,f s=aa t->(Wb t)<=1000) {src:au af} {all:ae AV} (c:∀Y,dU src all (B++Y)=ai)
  (T:∀s,s<=(Wb r)->∀Y,∃val X,cg PR (N+44) "_law_cut" [] [.s (r.drop s),v,.i ((p:aq)+1)] (B++Y)=.k val (B++(Y++X))/\iC (f s) val (B++(Y++X))):∀(ss:ae aq) (vars:ae (aC×AV)) (Y:St),(∀s∈ss,cP s=ai)->LC vars r v p->
  ∃j val X,eJ src all (λu fr C=>dw PR (N+50) Le {fr with v:=bA "size" u fr.v} C) (ss.map .i) ⟨vars,[]⟩ (B++Y)=.k (match nM r f ss with|none=>.n|some _=>.r val,⟨j,[]⟩) (B++(Y++X))/\iC (nM r f ss) val (B++(Y++X)):=by
 intro E;induction E with
 |nil=>exactλvars Y U U=>mM vars .n ([]) (by rw[aJ];exact iY (c Y)) rfl
 |cons s ss x=>
  intro vars Y G F;have y:=G s aH;have m:=F.upd "size" (.i s) #[0] #[0] #[0];have Q:∀b,decide (0<=s/\s<=(Wb r))=b->er PR (N+48) ⟨bA "size" (.i s) vars,[]⟩ (.M (lI 0) .LtE (.v "size") .LtE (dm (.v "rest"))) (B++Y)=.k b (B++Y):=λb R=>by
   refine KA ?_;by_cases h0:0<=s
   ·refine M7 bL (aO (bB)) (by rw[FH,aI h0]) (bU (cC gn) (aS (aO m.rest) bu) (gM (mc #[2,A]))) ?_;rw[FH,<-R];exact aU aa (eH.mpr (by omega))
   ·rw[<-R,aX (λh=>h0 h.1)];exact M8 bL (aO (bB)) (by rw[FH,aX h0])
  unfold nM;by_cases w:0<=s/\s<=(Wb r)
  ·rw[aF w];have z:=Q ai (aI w);refine d9 (T s.toNat (by omega) Y) λval X V o=>?_;have W:=oq (C:=B++Y) #[2,A] y w.1;have S:cS PR (N+47) (.a "tail" (.f (.g "_law_cut") [.e (.v "rest") (aa (.v "size")) ah,.v "texts",.b .Add (.v "place") (lI 1)])) ⟨bA "size" (.i s) vars,[]⟩ (B++Y)=.k (.n,⟨bA "tail" val (bA "size" (.i s) vars),[]⟩) (B++(Y++X)):=
    dQ (bU (cC Dd) (aS (oX (aO m.rest) (lG (aO (bB))) oM W) (aS (aO m.texts) (aS (fX (aO m.place) bL rfl) bu))) (jX V))
   cases hf:f s.toNat with
   |none=>rw[hf]at o;replace o:val=.n:=o;subst o;have H:=m.upd "tail" .n #[0] #[0] #[0];refine kN (x (bA "tail" .n (bA "size" (.i s) vars)) (Y++X) (λs h=>G s (aK _ h)) H) λI d X' g1 g2=>?_;refine mM I d (X++X') ?_ (by rw[<-aj Y];exact g2);rw[<-aj Y];refine fZ (c Y) (aT (dB z ?_) cG) g1;exact aT S (aT (dB (ef (aO (bB)) bL rfl) (cG (P:=PR) (n:=N+44))) cG)
   |some t=>
    rw[hf]at o;refine ba o ?_;clear o;intro a J Z;obtain rfl:=J;have K:=D _ _ hf;have c4:=tT (C:=B++(Y++X)) #[2,A] y w.1;have L:(B++(Y++X)++[AO.l [.s (r.take s.toNat)]])[(B++(Y++X)).length]?=aa (.l [.s (r.take s.toNat)]):=jf;have O:(B++(Y++X)++[AO.l [.s (r.take s.toNat)]])[a]?=aa (.l (t.map .s)):=fS Z;have c5:=NE L O (by rw[az,bj];exact#["1qNA}.by%xe:o0ryk6",K]);refine mM (bA "tail" (.l a) (bA "size" (.i s) vars)) (.l (B++(Y++X)++[AO.l [.s (r.take s.toNat)]]).length) (X++[.l [.s (r.take s.toNat)],.l (([.s (r.take s.toNat)]:ae AV)++t.map .s)]) ?_ (aY _ rfl ?_)
    ·have q:B++(Y++(X++[.l [.s (r.take s.toNat)],.l (([.s (r.take s.toNat)]:ae AV)++t.map .s)]))=(B++(Y++X)++[AO.l [.s (r.take s.toNat)]])++[AO.l (([.s (r.take s.toNat)]:ae AV)++t.map .s)]:=by simp
     rw[q];refine yJ (c Y) (cY (dB z ?_));have H:=m.upd "tail" (.l a) #[0] #[0] #[0];exact aT S (cY (dB (ef (aO (bB)) bL rfl) (cY (fi (fX (jQ (aS (oX (aO H.rest) oM (lG (aO (b9 (bB)))) c4) bu) rfl) (aO (bB)) c5)))))
    ·have q:B++(Y++(X++[.l [.s (r.take s.toNat)],.l (([.s (r.take s.toNat)]:ae AV)++t.map .s)]))=(B++(Y++X)++[AO.l [.s (r.take s.toNat)]])++[AO.l (([.s (r.take s.toNat)]:ae AV)++t.map .s)]:=by simp
     rw[q,jf];rfl
  ·rw[aG w];have z:=Q aD (aX w);refine kN (x (bA "size" (.i s) vars) Y (λs h=>G s (aK _ h)) m) λI d X' g1 g2=>?_;exact mM I d X' (fZ (c Y) (aT (dB z (cG (P:=PR) (n:=N+47))) cG) g1) g2
end
section
variable {B X:St} {v u tv:AV} {I:ae AV} {l n N p:af} {w r m:ae af} {J:St}
noncomputable def vN (a:ae (ae af)) (x r:ae af):ae aq:=if a=[]then[((Wb r):aq)-((Wb x):aq)]else if x=[]then[1]else(mH ((Wb r)+1)).map λ(i:af)=>(i:aq)
noncomputable def lj:ae (ae af)->ae af->au (ae (ae af))
 |[],_=>ah
 |[h],w=>if w.take (Wb h)≠h then ah else if w.drop (Wb h)=[]then aa []else ah
 |h::x::ys,w=>if w.take (Wb h)≠h then ah else nM (w.drop (Wb h)) (λs=>lj (x::ys) ((w.drop (Wb h)).drop s)) (vN ys x (w.drop (Wb h)))
theorem wR {f:af->au (ae (ae af))}:∀{ss:ae aq} {t:ae (ae af)},nM r f ss=aa t->∃s a,t=r.take s::a/\f s=aa a
 |[],t,h=>nomatch h
 |s::ss,t,h=>by
  unfold nM at h;split at h
  ·cases hf:f s.toNat with|none=>rw[hf]at h;exact wR h|some a=>rw[hf]at h;cases h;exact dY _ _ rfl hf
  ·exact wR h
theorem zS:∀{xs:ae (ae af)} {w:ae af} {t:ae (ae af)},lj xs w=aa t->(Wb t)+1=(Wb xs)
 |[h],w,t,e=>by
  unfold lj at e;split at e
  ·cases e
  ·split at e
   ·cases e;rfl
   ·cases e
 |h::x::ys,w,t,e=>by
  unfold lj at e;split at e
  ·cases e
  ·refine d9 (wR e) λs b a h'=>?_;clear e;refine dq a ?_;exact aU (·+1) (zS h')
theorem QM (L:af):lr 0 ((L:af):aq)=((mH L).map λ(i:af)=>(i:aq)).map .i:=by unfold lr;rw[show(((L:af):aq)-0).toNat=L by omega,iA];exact ng λi a=>by rw[ym];rfl
theorem kF (h:J[l]?=aa (.l I)) (a:(Wb I)<=1000000):items (.l l) J=aa (I,aa l):=by show(match J[l]? with|some (.l I)=>if bV I=ai then aa (I,aa l)else ah|_=>ah)=_;rw[h];show(if bV I=ai then aa (I,aa l)else ah)=_;rw[aF (jP a)]
noncomputable abbrev Tq:IS:=.a "sizes" (.f (.g "range") [.b .Add (dm (.v "rest")) (lI 1)])
noncomputable abbrev Tr:IS:=.i (.m (.v "holes") .Eq (lI 1)) [.a "sizes" (.s [.b .Sub (dm (.v "rest")) (dm (.u (.v "texts") (.b .Add (.v "place") (lI 1))))])] [.i (.m (.u (.v "texts") (.b .Add (.v "place") (lI 1))) .Eq (lS [])) [.a "sizes" (.s [lI 1])] []]
noncomputable abbrev Pe:IS:=.f (.v "size") (.v "sizes") Le
noncomputable abbrev Vw:ae IS:=[.i (.m (.v "holes") .Eq (lI 0)) [.r (.i (.m (.v "rest") .Eq (lS [])) (.s []) (.l (.n)))] [],Tq,Tr,Pe,.r (.l (.n))]
noncomputable abbrev sF (w:ae af) (v:AV) (p:af) (h:ae af) (d:aq):ae (aC×AV):=[("word",.s w),("texts",v),("place",.i (p:af)),("head",.s h),("rest",.s (w.drop (Wb h))),("holes",.i d)]
variable {C:ae (ae af)}
theorem FI {h:ae af} (D:(Wb C)<=900) (o:∀x∈C,(Wb x)<=100000) (S:kT B v (C.map .s)) (f:C[p]?=aa h) (g:(Wb w)<=100000):
  (w.take (Wb h)≠h->cg PR (N+60) "_law_cut" [] [.s w,v,.i (p:af)] B=.k .n B)/\
  (w.take (Wb h)=h->∀val fr σ',dw PR (N+55) Vw ⟨sF w v p h (((Wb C):aq)-1-p),[]⟩ B=.k (.r val,fr) σ'->cg PR (N+60) "_law_cut" [] [.s w,v,.i (p:af)] B=.k val σ'):=by
 have b:=o h (bG f);have q:du v (.i (p:af)) B=aa (.s h):=S.sub0 (by omega) (by rw[show((p:af):aq).toNat=p from rfl,bE,f];rfl);have t:slice (.s w) ah (aa (.i ((Wb h):af))) B=.k (.s (w.take (Wb h))) B:=tT #[18,g] (c_ #[18,b]) (by omega);have y:slice (.s w) (aa (.i ((Wb h):af))) ah B=.k (.s (w.drop (Wb h))) B:=oq #[18,g] (c_ #[18,b]) (by omega);have j:builtin "len" [.s h] B=.k (.i ((Wb h):af)) B:=mc #[18,b];have z:builtin "len" [v] B=.k (.i ((Wb C):af)) B:=by rw[S.len0,az]
 have l:cS PR (N+58) (.a "head" (.u (.v "texts") (.v "place"))) ⟨[("word",.s w),("texts",v),("place",.i (p:af))],[]⟩ B=.k (.n,⟨[("word",.s w),("texts",v),("place",.i (p:af)),("head",.s h)],[]⟩) B:=dQ (s:="head") (I:=⟨[("word",.s w),("texts",v),("place",.i (p:af))],[]⟩) (eu (aO rfl) (aO rfl) q);have c:er PR (N+56) ⟨[("word",.s w),("texts",v),("place",.i (p:af)),("head",.s h)],[]⟩ (.m (.e (.v "word") ah (aa (dm (.v "head")))) .NotEq (.v "head")) B=.k (!decide (w.take (Wb h)=h)) B:=
  ef (oX (aO rfl) oM (lG (bU (cC gn) (aS (aO rfl) bu) (gM j))) t) (aO rfl) rfl
 refine⟨λd=>?_,λd val fr σ' A=>?_⟩
 ·rw[aX d]at c;apply bX (bs:=[("word",.s w),("texts",v),("place",.i (p:af))]) De rfl
  ·apply aT l;apply cY;exact dB (r:=ai) c (cY (fi bL))
  ·rfl
 ·rw[aI d]at c;apply bX (fl:=.r val) (I:=fr) (bs:=[("word",.s w),("texts",v),("place",.i (p:af))]) De rfl
  ·apply aT l;refine aT (dB (r:=aD) c (cG (P:=PR) (n:=N+55))) ?_;refine aT (dQ (s:="rest") (oX (aO rfl) (lG (bU (cC gn) (aS (aO rfl) bu) (gM j))) oM y)) ?_;refine aT (dQ (s:="holes") (fX (fX (bU (cC gn) (aS (aO rfl) bu) (gM z)) bL rfl) (aO rfl) rfl)) ?_;exact A
  ·rfl
theorem NF {c:AV} {ss:ae aq} {src:au af} {vars:ae (aC×AV)} (j:(Wb r)<=100000) (f:af->au (ae (ae af))) (b:∀s t,f s=aa t->(Wb t)<=1000) (d:items c B=aa (ss.map .i,src)) (a:∀Y,dU src (ss.map .i) (B++Y)=ai)
  (m:∀s,s<=(Wb r)->∀Y,∃val X,cg PR (N+44) "_law_cut" [] [.s (r.drop s),v,.i ((p:aq)+1)] (B++Y)=.k val (B++(Y++X))/\iC (f s) val (B++(Y++X))) (o:∀s∈ss,cP s=ai) (F:LC vars r v p) (e:vars.lookup "sizes"=aa c):
  ∃val X fr,dw PR (N+52) [Pe,.r (.l (.n))] ⟨vars,[]⟩ B=.k (.r val,fr) (B++X)/\iC (nM r f ss) val (B++X):=by
 refine kN (QL (N:=N) (all:=ss.map .i) j f b a m ss vars [] o F) λg val X g1 g2=>?_;rw[aJ,eF]at g1;rw[eF]at g2;cases h:nM r f ss with|none=>rw[h]at g1;exact mM .n X ⟨g,[]⟩ (aT (gI (aO e) d g1) (cY (fi bL))) rfl|some t=>rw[h]at g1 g2;exact mM val X ⟨g,[]⟩ (cY (gI (aO e) d g1)) g2
theorem QN (L:(Wb C)<=900) (M:∀x∈C,(Wb x)<=100000):∀(m p n:af) (w:ae af) (B:St),kT B v (C.map .s)->p+m+1=(Wb C)->(Wb w)<=100000->
  ∃val X,cg PR (n+60*(m+1)) "_law_cut" [] [.s w,v,.i (p:af)] B=.k val (B++X)/\iC (lj (C.drop p) w) val (B++X):=by
 intro m;induction m with
 |zero=>
  intro p n w B S a D;refine ck (⟨C[p]'#[58,a],aR #[58,a]⟩:∃h,C[p]?=aa h) λh g=>?_;have E:C.drop p=[h]:=by rw[cD #[58,a],cF #["1d<.{EZ+e|(Zbp",a]];congr 1;rw[aR #[58,a]]at g;exact aw g
  refine dp (FI (N:=n) L M S g D) λq1 F=>?_;have q1:_->cg PR (n+60*(0+1)) "_law_cut" [] [.s w,v,.i (p:af)] B=_:=q1;rw[E];unfold lj;by_cases c:w.take (Wb h)=h
  ·rw[aG (λO=>O c)];have G:er PR (n+53) ⟨sF w v p h (((Wb C):aq)-1-p),[]⟩ (.m (.v "holes") .Eq (lI 0)) B=.k ai B:=ef (aO rfl) bL (IR (by omega));have d:er PR (n+50) ⟨sF w v p h (((Wb C):aq)-1-p),[]⟩ (.m (.v "rest") .Eq (lS [])) B=.k (decide (w.drop (Wb h)=[])) B:=ef (aO rfl) bL rfl;by_cases h0:w.drop (Wb h)=[]
   ·rw[aI h0]at d;rw[aF h0];refine dY (.l (Wb B)) ([.l []]) (F c _ ⟨sF w v p h (((Wb C):aq)-1-p),[]⟩ _ (cY (dB (r:=ai) G (cY (fi (A_ (r:=ai) d ?_)))))) (aY _ rfl jf);refine nG ?_;exact jQ bu rfl
   ·rw[aX h0]at d;rw[aG h0];refine dY .n ([]) ?_ rfl;rw[aJ];refine F c _ ⟨sF w v p h (((Wb C):aq)-1-p),[]⟩ _ (cY (dB (r:=ai) G (cY (fi (A_ (r:=aD) d ?_)))));refine ix ?_;exact bL
  ·rw[aF c];exact dY .n ([]) (by rw[aJ];exact q1 c) rfl
 |succ m ih=>
  intro p n w B S a D;refine ck (⟨C[p]'#[38,a],aR #[38,a]⟩:∃h,C[p]?=aa h) λh g=>?_;refine ck (⟨C[p+1]'#[51,a],aR #[51,a]⟩:∃x,C[p+1]?=aa x) λx f=>?_;have Q:C.drop (p+1)=x::C.drop (p+2):=by rw[cD #[51,a]];congr 1;rw[aR #[51,a]]at f;exact aw f
  have E:C.drop p=h::x::C.drop (p+2):=by rw[<-Q,cD #[38,a]];congr 1;rw[aR #[38,a]]at g;exact aw g
  have R:=M x (bG f);have o:(C.drop (p+2)).length=m:=by rw[cj];exact aB #["7eWl{eZp2RqwDATYH~Q%",a,ag #["1pcq$0GYX=sZ{Y;",a]] #["7eWo1CZ2AU*8QxrF<SD'",a,d8 _ _]
  generalize Wd:C.drop (p+2)=ys at E Q o;rw[show n+60*(m+1+1)=n+60*(m+1)+60 by exact aB #["EAEJrZpr:1`MA>?dd>$?"] #["6%HNUgpy?|)$kc(0X1wgq7;"]];refine dp (FI (N:=n+60*(m+1)) L M S g D) λq1 F=>?_;rw[E];unfold lj;by_cases c:w.take (Wb h)=h
  ·rw[aG (λO=>O c)];have q:(w.drop (Wb h)).length<=100000:=by rw[cj];exact#[119,D,bY _ _]
   have T:∀s t,lj (x::ys) ((w.drop (Wb h)).drop s)=aa t->(Wb t)<=1000:=λs t e=>by have:=zS e;rw[aQ]at this;exact#["7d*9}TSu2|k6W,%,x%0o66IZ6Wo^|bIg6U",L,a,o,this]
   have IH:∀Z s,s<=(w.drop (Wb h)).length->∀Y,∃val X,cg PR (n+60*(m+1)+44) "_law_cut" [] [.s ((w.drop (Wb h)).drop s),v,.i ((p:aq)+1)] (B++Z++Y)=.k val (B++Z++(Y++X))/\iC (lj (x::ys) ((w.drop (Wb h)).drop s)) val (B++Z++(Y++X)):=λZ s j Y=>by refine d9 (ih (p+1) (n+44) ((w.drop (Wb h)).drop s) (B++Z++Y) ((S.more Z).more Y) (by exact aB #[126,a] #[127,a]) (by rw[cj];exact#[119,q,bY _ _])) λval X H y=>?_;rw[Q]at y;rw[aj (B++Z)]at H y;refine dY val X ?_ y;rw[show n+60*(m+1)+44=n+44+60*(m+1)by exact aB #["41|EGExRO!+,aAu:v1.6c`!Bihw"] #["6V'hjVJs`r>V(z|:qM._I^:I"]];exact H
   have c1:du v (.i ((p:aq)+1)) B=aa (.s x):=S.sub0 (by omega) (by rw[show((p:aq)+1).toNat=p+1 from rfl,bE,f];rfl);have c2:builtin "len" [.s (w.drop (Wb h))] B=.k (.i ((w.drop (Wb h)).length:af)) B:=mc #[18,q];have c3:builtin "len" [.s x] B=.k (.i ((Wb x):af)) B:=mc #[18,R];have z:cP (((w.drop (Wb h)).length:aq)+1)=ai:=c_ (m:=(w.drop (Wb h)).length+1) #["1qNB0M6*Pa+MHH!94,",q];have c4:kq "range" [.i (((w.drop (Wb h)).length:aq)+1)] B=.k (.r 0 (((w.drop (Wb h)).length:aq)+1)) B:=mE z;have G:er PR (n+60*(m+1)+53) ⟨sF w v p h (((Wb C):aq)-1-p),[]⟩ (.m (.v "holes") .Eq (lI 0)) B=.k aD B:=ef (aO rfl) bL (IU (by omega));have s1:cS PR (n+60*(m+1)+54) (.i (.m (.v "holes") .Eq (lI 0)) [.r (.i (.m (.v "rest") .Eq (lS [])) (.s []) (.l (.n)))] []) ⟨sF w v p h (((Wb C):aq)-1-p),[]⟩ B=.k (.n,⟨sF w v p h (((Wb C):aq)-1-p),[]⟩) B:=dB (r:=aD) G (cG (P:=PR) (n:=n+60*(m+1)+52));have s2:cS PR (n+60*(m+1)+53) Tq ⟨sF w v p h (((Wb C):aq)-1-p),[]⟩ B=.k (.n,⟨sF w v p h (((Wb C):aq)-1-p)++[("sizes",.r 0 (((w.drop (Wb h)).length:aq)+1))],[]⟩) B:=
    dQ (s:="sizes") (I:=⟨sF w v p h (((Wb C):aq)-1-p),[]⟩) (bU (cC mV) (aS (fX (bU (cC gn) (aS (aO rfl) bu) (gM c2)) bL rfl) bu) (nF c4))
   have fin:∀(Z:St) (J:AV) (ss:ae aq) (src:au af),cS PR (n+60*(m+1)+52) Tr ⟨sF w v p h (((Wb C):aq)-1-p)++[("sizes",.r 0 (((w.drop (Wb h)).length:aq)+1))],[]⟩ B=.k (.n,⟨sF w v p h (((Wb C):aq)-1-p)++[("sizes",J)],[]⟩) (B++Z)->items J (B++Z)=aa (ss.map .i,src)->(∀Y,dU src (ss.map .i) (B++Z++Y)=ai)->(∀s∈ss,cP s=ai)->
     ∃val X,cg PR (n+60*(m+1)+60) "_law_cut" [] [.s w,v,.i (p:af)] B=.k val (B++X)/\iC (nM (w.drop (Wb h)) (λs=>lj (x::ys) ((w.drop (Wb h)).drop s)) ss) val (B++X):=λZ J ss src e U V W=>by
    refine kN (NF (N:=n+60*(m+1)) (B:=B++Z) (p:=p) (v:=v) (vars:=sF w v p h (((Wb C):aq)-1-p)++[("sizes",J)]) q _ T U V (IH Z) W ⟨rfl,rfl,rfl⟩ rfl) λval X fr H y=>?_;refine dY val (Z++X) ?_ (by rw[<-aj];exact y);rw[<-aj];exact F c _ _ _ (aT s1 (aT s2 (aT e H)))
   have A:er PR (n+60*(m+1)+51) ⟨sF w v p h (((Wb C):aq)-1-p)++[("sizes",.r 0 (((w.drop (Wb h)).length:aq)+1))],[]⟩ (.m (.v "holes") .Eq (lI 1)) B=.k (decide (ys=[])) B:=by refine ef (aO rfl) bL (aU aa (eH.mpr ?_));rw[<-e_];omega
   unfold vN;by_cases K:ys=[]
   ·rw[aF K];rw[aI K]at A;refine fin [.l [.i (((w.drop (Wb h)).length:aq)-((Wb x):aq))]] (.l (Wb B)) [((w.drop (Wb h)).length:aq)-((Wb x):aq)] (aa (Wb B)) ?_ (kF jf (by rw[az,bj];exact#[94])) (λY=>fg (fS jf)) (λs j=>?_)
    ·refine dB (r:=ai) A ?_;exact aT (dQ (jQ (aS (fX (bU (cC gn) (aS (aO rfl) bu) (gM c2)) (bU (cC gn) (aS (eu (aO rfl) (fX (aO rfl) bL rfl) c1) bu) (gM c3)) rfl) bu) rfl)) cG
    ·rw[aL]at j;unfold cP;exact aI (by omega)
   ·rw[aG K];rw[aX K]at A;have d:er PR (n+60*(m+1)+49) ⟨sF w v p h (((Wb C):aq)-1-p)++[("sizes",.r 0 (((w.drop (Wb h)).length:aq)+1))],[]⟩ (.m (.u (.v "texts") (.b .Add (.v "place") (lI 1))) .Eq (lS [])) B=.k (decide (x=[])) B:=ef (eu (aO rfl) (fX (aO rfl) bL rfl) c1) bL rfl;by_cases h0:x=[]
    ·rw[aF h0];rw[aI h0]at d;refine fin [.l [.i 1]] (.l (Wb B)) [1] (aa (Wb B)) ?_ (kF jf (by rw[az,bj];exact#[94])) (λY=>fg (fS jf)) (λs j=>?_)
     ·refine dB (r:=aD) A ?_;refine aT (dB (r:=ai) d ?_) cG;exact aT (dQ (jQ (aS bL bu) rfl)) cG
     ·rw[aL]at j;refine dq j ?_;rfl
    ·rw[aG h0];rw[aX h0]at d;refine fin [] (.r 0 (((w.drop (Wb h)).length:aq)+1)) _ ah ?_ ?_ (λY=>rfl) (λs j=>?_)
     ·rw[aJ];refine dB (r:=aD) A ?_;exact aT (dB (r:=aD) d (cG (P:=PR) (n:=n+60*(m+1)+48))) cG
     ·rw[<-QM ((w.drop (Wb h)).length+1)];exact kE rfl z (by omega)
     ·refine ba (bT.mp j) λi U Wc=>?_;refine dH Wc ?_;exact c_ (by have:=CR.mp U;exact#["}+JR7WjENyFz(,Wn3Lu,Y",q,this])
  ·rw[aF c];exact dY .n ([]) (by rw[aJ];exact q1 c) rfl
end
section
variable {B X:St} {v u C:AV} {vs:ae AV} {l n N p:af} {w r m:ae af} {I:St}
theorem Ts {f:af->au (ae (ae af))} {k:af} (c:(Wb r)<=k) (d:∀s t,f s=aa t->∀x∈t,(Wb x)<=k):∀{ss:ae aq} {t:ae (ae af)},nM r f ss=aa t->∀x∈t,(Wb x)<=k:=λ{ss} {t} h x a=>by
 refine d9 (wR h) λs e b h'=>?_;obtain rfl:=b;rcases bw.mp a with rfl|a
 ·rw[bR];exact#[5,c,e9 _ _]
 ·exact d _ _ h' x a
theorem HE:∀{xs:ae (ae af)} {w:ae af} {t:ae (ae af)} {k:af},(Wb w)<=k->lj xs w=aa t->∀x∈t,(Wb x)<=k
 |[h],w,t,k,_,e=>by
  unfold lj at e;split at e
  ·cases e
  ·split at e
   ·cases e;exactλx b=>nomatch b
   ·cases e
 |h::x::ys,w,t,k,a,e=>by
  unfold lj at e;split at e
  ·cases e
  ·exact Ts (by rw[cj];exact#[5,a,bY _ _]) (λs t c=>HE (by rw[cj,cj];exact#["CFIQ9WSt=>M|ts;S",a,bY _ _,bY _ _]) c) e
theorem QO {xs:ae (ae af)} {ts:ae aq} (S:kT B v (xs.map .s)) (St:kT B C (ts.map .i)) (b:(Wb xs)=(Wb ts)+1) (p:(Wb ts)<=800) (G:(Wb w)<=100000) (Q:∀x∈xs,(Wb x)<=100000):
  ∃val X,cg PR (n+60*(Wb xs)+100) "_law_want" [] [.s w,v,C] B=.k val (B++X)/\iC (Bw tU ts (lj xs w)) val (B++X):=by
 refine d9 (QN (v:=v) (C:=xs) #["6m;kq*mYtX}JVNnm1Knd",b,p] Q ((Wb xs)-1) 0 (n+95) w B S (by exact aB #["BQ}ZgP=5_e;bk",ag #[189,b]] #["1d?m|,>326`1)m",d8 _ _]) G) λval X e c=>?_;rw[show n+95+60*((Wb xs)-1+1)=n+60*(Wb xs)+95 by exact aB #["8XAuu<`,>8nHY0k;K=A:QQ|A4g+Q",ag #[189,b]] #["2eqnV!St.Judy9zCdWS<jmqW^tx%+,a",d8 _ _]]at e;generalize n+60*(Wb xs)=N at e;rw[gB]at c;have A:cS PR (N+98) (.a "cut" (.f (.g "_law_cut") [.v "word",.v "texts",lI 0])) ⟨[("word",.s w),("texts",v),("types",C)],[]⟩ B=.k (.n,⟨[("word",.s w),("texts",v),("types",C),("cut",val)],[]⟩) (B++X):=
  dQ (s:="cut") (I:=⟨[("word",.s w),("texts",v),("types",C)],[]⟩) (bU (cC Dd) (aS (aO rfl) (aS (aO rfl) (aS bL bu))) (jX e))
 cases q:lj xs w with
 |none=>
  rw[q]at c;replace c:val=.n:=c;clear e;subst c;refine dY .n X ?_ rfl;apply bX (fl:=.r .n) (bs:=[("word",.s w),("texts",v),("types",C)]) wK rfl
  ·apply aT A;apply cY;exact dB (r:=ai) (ef (aO rfl) bL rfl) (cY (fi bL))
  ·rfl
 |some r=>
  rw[q]at c;refine ba c ?_;clear c;intro a D H;clear e;obtain rfl:=D;have E:=zS q;have R:=HE (bf _) q;have T:builtin "len" [C] (B++X)=.k (.i ((Wb ts):af)) (B++X):=by rw[St.len,az]
  refine ba (FG (n:=N+83) (C:=B++X) (y:="k") (test:=.o .And [.m (.u (.v "types") (.v "k")) .Eq (.g "NUMBER"),.t (.f (.g "_law_number") [.u (.v "cut") (.v "k")])]) (λvars=>MF vars C "cut" a)
   (λvars v h=>⟨b9 h.types,b9 h.cut⟩) (λj=>decide (ts[j]?=aa 7)&&!tU ((r[j]?).getD [])) (dr 0 (Wb ts)) (Wb ts) 0 [("word",.s w),("texts",v),("types",C),("cut",.l a)] (λj V z vars F=>by
    obtain⟨t,J⟩:∃t,ts[j]?=aa t:=⟨ts[j]'#[60,z],aR #[60,z]⟩
    obtain⟨x,d⟩:∃x,r[j]?=aa x:=⟨r[j]'#[46,b,E,z],aR #[46,b,E,z]⟩
    refine HD (n:=N+43) #[0] #[0] Fk (λn=>Lb (by have:=R x (bG d);exact#[47,G,this])) J d F.types F.cut (St.sub _ _ _ (by omega) (by rw[show((j:af):aq).toNat=j from rfl,bE,J];rfl)) (kK H (by omega) (by rw[show((j:af):aq).toNat=j from rfl,bE,d];rfl) (by rw[az];exact#["7Hgr`4n4Or`OKvD(b'yHCobwRYk",b,p,E]))) ⟨rfl,rfl⟩) λW f1 f2=>?_
  have U:=mE (I:=B++X) (c_ (m:=(Wb ts)) #[133,p]);have K:items (.r 0 ((Wb ts):af)) (B++X)=aa (dr 0 (Wb ts),ah):=by rw[kE rfl (c_ #[133,p]) (by omega),nJ]
  have L:cS PR (N+97) (.i (.m (.v "cut") .Is (.l (.n))) [.r (.l (.n))] []) ⟨[("word",.s w),("texts",v),("types",C),("cut",.l a)],[]⟩ (B++X)=.k (.n,⟨[("word",.s w),("texts",v),("types",C),("cut",.l a)],[]⟩) (B++X):=by
   apply dB (r:=aD)
   ·exact ef (aO rfl) bL rfl
   ·exact cG (P:=PR) (n:=N+95)
  have M:bg PR (N+95) ⟨[("word",.s w),("texts",v),("types",C),("cut",.l a)],[]⟩ (.f (.g "range") [dm (.v "types")]) (B++X)=.k (.r 0 ((Wb ts):af)) (B++X):=
   bU (cC mV) (aS (bU (cC gn) (aS (aO rfl) bu) (gM T)) bu) (nF U)
  show∃val X,_/\iC (if x3 tU ts r=ai then aa r else ah) val (B++X);unfold x3;cases O:(eY 0 (Wb ts)).all λj=>!(decide (ts[j]?=aa 7)&&!tU ((r[j]?).getD []))with
  |true=>
   rw[O]at f1;refine dY (.l a) X ?_ (aY _ rfl H);apply bX (fl:=.r (.l a)) (bs:=[("word",.s w),("texts",v),("types",C)]) wK rfl
   ·apply aT A;apply aT L;apply aT
    ·exact gI M K f1
    ·apply cY;exact fi (aO f2.cut)
   ·rfl
  |false=>
   rw[O]at f1;refine dY .n X ?_ rfl;apply bX (fl:=.r .n) (bs:=[("word",.s w),("texts",v),("types",C)]) wK rfl
   ·apply aT A;apply aT L;apply cY;exact gI M K f1
   ·rfl
end
section
variable {X G Y:St} {v u tv:AV} {U:ae AV} {l n N p a k:af} {w r m:ae af} {I:St} {C:ae aq} {T:ae Row} {J:AF} {o i e:IE}
noncomputable abbrev tk:AV:=.o "take" [("at",3),("nums",2)]
noncomputable def qQ (C:ae aq) (a k:af):af:=(((C[a%(Wb C)]?).getD 0+31*((a/(Wb C):af):aq)).fmod (k:af)).toNat
theorem Tt {z j y:aq} (h:bg PR n J o I=.k (.l l) I) (a:bg PR n J i I=.k (.i z) I) (c:du (.l l) (.i z) I=aa (.i j)) (d:bg PR n J e I=.k (.i y) I) (f:I[l]?=aa (.l U)) (g:0<=z/\z<(Wb U)/\cP z=ai):
  cS PR (n+1) (.u o i .Add e) J I=.k (.n,J) (I.set l (.l (U.set z.toNat (.i (j+y))))):=by
 show(bg PR n J o I).bind _=_;rw[h];show(bg PR n J i I).bind _=_;rw[a];show(opt I (du (.l l) (.i z) I)).bind _=_;rw[c];show(bg PR n J e I).bind _=_;rw[d];show(match I[l]? with|some (.l U)=>(if 0<=z/\z<(Wb U)/\cP z=ai then R.k (Fl.n,J) (I.set l (.l (U.set z.toNat (.i (j+y)))))else .b)|_=>.b)=_;rw[f];show(if 0<=z/\z<(Wb U)/\cP z=ai then R.k (Fl.n,J) (I.set l (.l (U.set z.toNat (.i (j+y)))))else .b)=_;rw[aF g]
theorem tD (F:0<(Wb C)) (g:(Wb C)<=1000) (H:a<=100000) (M:0<k):cg PR (n+40) "take" [("at",3),("nums",2)] [.i (k:af)] (bz C (a:af) T++G)=.k (.i (qQ C a k:af)) (bz C ((a+1:af):aq) T++G)/\qQ C a k<k:=by
 have e:(0:aq)<(k:af):=by omega
 have f1:=Int.fmod_nonneg_of_pos ((C[a%(Wb C)]?).getD 0+31*((a/(Wb C):af):aq)) e;have f2:=Int.fmod_lt_of_pos ((C[a%(Wb C)]?).getD 0+31*((a/(Wb C):af):aq)) e;refine⟨?_,by unfold qQ;omega⟩;have o:a%(Wb C)<(Wb C):=Nat.mod_lt _ F;refine ck (⟨C[a%(Wb C)]'o,aR o⟩:∃x,C[a%(Wb C)]?=aa x) λx p=>?_;generalize f:bz C (a:af) T++G=B;have t:B[0]?=aa (.l (C.map .i)):=by rw[<-f];rfl
 have u:B[1]?=aa (.l [.i (a:af)]):=by rw[<-f];rfl
 have J:B[2]?=aa (.c (aa (.l 0))):=by rw[<-f];rfl
 have K:B[3]?=aa (.c (aa (.l 1))):=by rw[<-f];rfl
 have bs:B.set 1 (.l [.i ((a:af)+1)])=bz C ((a+1:af):aq) T++G:=by rw[<-f];rfl
 have g1:∀vars,j9 ⟨vars,[("at",3),("nums",2)]⟩ "nums" B=aa (.l 0):=λvars=>by show(match B[2]? with|some (.c v)=>v|_=>ah)=_;rw[J]
 have g2:∀vars,j9 ⟨vars,[("at",3),("nums",2)]⟩ "at" B=aa (.l 1):=λvars=>by show(match B[3]? with|some (.c v)=>v|_=>ah)=_;rw[K]
 have h:du (.l 1) (.i 0) B=aa (.i (a:af)):=kK u #[0] rfl (by show 1<=1000000;exact#[94]);have w:builtin "len" [.l 0] B=.k (.i ((Wb C):af)) B:=by rw[mW t (by rw[az];exact#[3,g]),az]
 have y:binop .Mod (.i (a:af)) (.i ((Wb C):af)) B=.k (.i ((a%(Wb C):af):aq)) B:=by show(if(((Wb C):af):aq)=0 then R.b else R.k (AV.i (((a:af):aq).fmod ((Wb C):af))) B)=_;rw[aG (by omega),Int.fmod_eq_emod_of_nonneg _ (by omega),Int.natCast_emod]
 have j:cP ((Wb C):af)=ai:=c_ #[3,g];have z:binop .FloorDiv (.i (a:af)) (.i ((Wb C):af)) B=.k (.i ((a/(Wb C):af):aq)) B:=by show(if(decide ((((Wb C):af):aq)=0)||!cP ((Wb C):af))=ai then R.b else R.k (AV.i (((a:af):aq).fdiv ((Wb C):af))) B)=_;rw[j,aX (by omega),aG #[0],Int.fdiv_eq_ediv_of_nonneg _ (by omega),Int.natCast_ediv]
 have A:du (.l 0) (.i ((a%(Wb C):af):aq)) B=aa (.i x):=kK t (by omega) (by rw[cU,bE,p];rfl) (by rw[az];exact#[3,g]);have L:cP ((a/(Wb C):af):aq)=ai:=c_ (by have:=Nat.div_le_self a (Wb C);exact#[47,H,this]);have D:binop .Mult (.i 31) (.i ((a/(Wb C):af):aq)) B=.k (.i (31*((a/(Wb C):af):aq))) B:=Fy rfl L;have E:binop .Add (.i x) (.i (31*((a/(Wb C):af):aq))) B=.k (.i (x+31*((a/(Wb C):af):aq))) B:=rfl;have m:binop .Mod (.i (x+31*((a/(Wb C):af):aq))) (.i (k:af)) (bz C ((a+1:af):aq) T++G)=.k (.i (qQ C a k:af)) (bz C ((a+1:af):aq) T++G):=by unfold qQ;rw[p]at f1⊢;show(if((k:af):aq)=0 then R.b else R.k (AV.i ((x+31*((a/(Wb C):af):aq)).fmod (k:af))) _)=_;rw[aG (by omega),Int.toNat_of_nonneg f1];rfl
 generalize qQ C a k=d at m;generalize((a/(Wb C):af):aq)=q at z D E m;generalize((a%(Wb C):af):aq)=N at y A;refine mU (cl:=[]) (bs:=[("k",.i (k:af))]) (fl:=.r (.i (d:af))) (I:=⟨[("k",.i (k:af)),("n",.i (x+31*q))],[("at",3),("nums",2)]⟩) Td rfl rfl rfl ?_ rfl;refine aT (fr1:=⟨[("k",.i (k:af)),("n",.i (x+31*q))],[("at",3),("nums",2)]⟩) (dQ (s:="n") (fX (eu (gW (g1 _)) (fX (eu (gW (g2 _)) bL h) (bU (cC gn) (aS (gW (g1 _)) bu) (gM w)) y) A) (fX bL (fX (eu (gW (g2 _)) bL h) (bU (cC gn) (aS (gW (g1 _)) bu) (gM w)) z) D) E)) ?_;refine aT (Tt (gW (g2 _)) bL h bL u (dy #[0] (by show(0:aq)<((1:af):aq);decide) rfl)) ?_;refine cY (fi ?_);rw[show B.set 1 (.l (([.i (a:af)]:ae AV).set (0:aq).toNat (.i ((a:af)+1))))=bz C ((a+1:af):aq) T++G from bs];exact fX (aO rfl) (aO rfl) m
end
section
variable {X G Y:St} {v u tv:AV} {vs:ae AV} {l n N p a k:af} {w r m:ae af} {C:St} {I:ae aq} {T:ae Row} {J:AF} {o i e:IE}
noncomputable def uI:ae (ae af):=[[],[97],[98],[97,98],[49],[45],[48],[45,55],[57,48,48,55,49,57,57,50,53,52,55,52,48,57,57,49],[57,48,48,55,49,57,57,50,53,52,55,52,48,57,57,50],[45,48],[48,55]]
noncomputable def gf:ae (ae af):=[[],[97],[98],[97,98],[49],[45],[98,97]]
theorem HF:cg PR (n+40) "_law_bits" [] [] C=.k (.l (Wb C)) (C++[.l (uI.map .s)]):=by
 refine bX (fl:=.r (.l (Wb C))) (bs:=[]) I7 rfl (cY (fi (jQ (us:=uI.map .s) ?_ rfl))) rfl
 repeat(first|exact bu|refine aS bL ?_)
theorem zT:cg PR (n+40) "_law_texts" [] [] C=.k (.l (Wb C)) (C++[.l (gf.map .s)]):=by
 refine bX (fl:=.r (.l (Wb C))) (bs:=[]) GN rfl (cY (fi (jQ (us:=gf.map .s) ?_ rfl))) rfl
 repeat(first|exact bu|refine aS bL ?_)
theorem NG {a:aq} {b:aq} {o:AO}:(bz I b T++(G++[o]))[(bz I a T++G).length]?=aa o:=by rw[<-aj,show(bz I a T++G).length=(bz I b T++G).length by rw[ar,ar];rfl];exact jf
theorem vO {L:ae (ae af)} {fn:aC} {z:aq} (d:0<(Wb I)) (e:(Wb I)<=1000) (h:a<=100000) (j:(Wb L)<=1000) (m:z=((Wb L):af)) (o:0<(Wb L)) (p:PR.g fn=aa (.f fn)) (q:∀(n:af) (C:St),cg PR (n+40) fn [] [] C=.k (.l (Wb C)) (C++[.l (L.map .s)])) (r:J.v.lookup "take"=aa tk):
  ∃s∈L,bg PR (n+50) J (.u (.f (.g fn) []) (.f (.v "take") [.l (.i z)])) (bz I (a:af) T++G)=.k (.s s) (bz I ((a+1:af):aq) T++(G++[.l (L.map .s)])):=by
 refine dq m ?_;refine dp (tD (n:=n+7) (G:=G++[.l (L.map .s)]) (T:=T) d e h o) λt1 b=>?_;refine aY (L[qQ I a (Wb L)]'b) (o_ b) ?_;have c:=q (n+7) (bz I (a:af) T++G);rw[aj]at c;refine eu (bU (cC p) bu (jX c)) (bU (aO r) (aS bL bu) (Bc t1)) ?_;exact kK NG (by omega) (by rw[cU,bE,aR b];rfl) (by rw[az];exact#[3,j])
end
section
variable {X G Y:St} {v u tv:AV} {vs:ae AV} {l n N p a k:af} {w r m:ae af} {U:St} {C:ae aq} {T:ae Row} {J:AF} {o i e:IE}
structure FL (vars:ae (aC×AV)) (v:AV) (o:ae af):Prop where
 texts:vars.lookup "texts"=aa v
 take:vars.lookup "take"=aa tk
 out:vars.lookup "out"=aa (.s o)
theorem FL.upd {o:ae af} {vars:ae (aC×AV)} (h:FL vars v o) (x:aC) (u:AV) (a:"texts"≠x) (b:"take"≠x) (c:"out"≠x):FL (bA x u vars) v o:=⟨(a_ a).trans h.texts,(a_ b).trans h.take,(a_ c).trans h.out⟩
theorem Bx:∀s∈uI,(Wb s)<=16:=by have h:(uI.all λs=>decide ((Wb s)<=16))=ai:=rfl;exactλs a=>bC (cy.mp h s a)
variable {I:ae (ae af)}
theorem QP (E:0<(Wb C)) (H:(Wb C)<=1000) (S:∀(b:aq) X,kT (bz C b T++(G++X)) v (I.map .s)) (K:(Wb I)<=100) (M:∀x∈I,(Wb x)<=500) (all:ae AV):∀(q k a:af) (o:ae af) (vars:ae (aC×AV)) (Y:St),k+q=(Wb I)->a+q<=100000->(Wb o)<=600*k->FL vars v o->
  ∃c p t,eJ ah all (λu J U=>dw PR (n+53) [.g "out" .Add (.b .Add (.u (.f (.g "_law_bits") []) (.f (.v "take") [lI 12])) (.u (.v "texts") (.v "k")))] {J with v:=bA "k" u J.v} U) (dr k q) ⟨vars,[]⟩ (bz C (a:af) T++(G++Y))=.k (.n,⟨c,[]⟩) (bz C ((a+q:af):aq) T++(G++t))/\FL c v p/\(Wb p)<=600*(Wb I):=by
 intro w;induction w with
 |zero=>exactλk a o vars Y d A r F=>l7 vars o Y (iY rfl) F (by rw[<-d];exact r)
 |succ q y=>
  intro k a o vars Y d B r F;refine ck (⟨I[k]'#[7,d],aR #[7,d]⟩:∃x,I[k]?=aa x) λx j=>?_;have e:=M x (bG j);have m:=F.upd "k" (.i (k:af)) #[0] #[0] #[0];refine ba (vO (n:=n) (G:=G++Y) (T:=T) (J:=⟨bA "k" (.i (k:af)) vars,[]⟩) (L:=uI) (z:=12) (a:=a) E H #["1?s)rCl?dv|lSO)Q(qH",B] #[0] rfl #[0] Bh (λA A=>HF) m.take) λs N D=>?_;rw[aj G]at D;have h:=Bx s N;have O:du v (.i (k:af)) (bz C ((a+1:af):aq) T++(G++(Y++[.l (uI.map .s)])))=aa (.s x):=(S _ _).sub0 (by omega) (by rw[cU,bE,j];rfl);have st:=Be (P:=PR) m.out (fX D (eu (aO m.texts) (aO (bB)) O) (o6 #["q2Y&)j*}>YXnK6o+hQ?S9NAUn",e,h])) (jP (by rw[ar,ar];exact#["7ct+tpPeuu6aN}AIrfLm<~Q3L%x8}x_T4jgu3:geq~HYhMzE",K,d,r,e,h]));have Q:FL (bA "out" (.s (o++(s++x))) (bA "k" (.i (k:af)) vars)) v (o++(s++x)):=⟨b9 m.texts,b9 m.take,bB⟩
  refine lq (y (k+1) (a+1) (o++(s++x)) (bA "out" (.s (o++(s++x))) (bA "k" (.i (k:af)) vars)) (Y++[.l (uI.map .s)]) (by exact aB #[36,d] #[37,d]) #["3DZr9DUurAW!W6;,DdZ(lN",B] (by rw[ar,ar];exact#["47DOM1.}Hy!hX'I%S(bEeS)c?+FHaPiS}_",r,e,h]) Q) λR p t g1 g2 g3=>?_;rw[show a+1+q=a+(q+1)by exact aB #[19] #[20]]at g1;exact l7 R p t (fZ rfl (aT st (cG (P:=PR) (n:=n+51))) g1) g2 g3
theorem Lg {t:ae af} (h:(Wb t)<=1000000):∃u,slice (.s t) ah (aa (.i (-1))) U=.k (.s u) U/\(Wb u)<=(Wb t):=by refine aY (dZ t 0 ((-1:aq)+(Wb t)).toNat) ?_ (by unfold dZ;rw[cj,bR];exact#[5,e9 _ _,bY _ _]);show(if bV t=ai then _ else R.b)=_;rw[aF (jP h)];rfl
theorem QQ (O:0<(Wb C)) (Q:(Wb C)<=1000) (S:∀(b:aq) X,kT (bz C b T++(G++X)) v (I.map .s)) (h0:I≠[]) (c:(Wb I)<=100) (Z:∀x∈I,(Wb x)<=500) (R:a<=10000):
  ∃w a' X,cg PR (n+100) "_law_fill" [] [v,tk] (bz C (a:af) T++(G++Y))=.k (.s w) (bz C (a':af) T++(G++X))/\(Wb w)<=100000/\a'<=a+(Wb I)+2:=by
 refine d9 (by
  match I,h0 with
  |f::I,_=>exact(dY f (Wb I) rfl rfl):∃f q,(Wb I)=q+1/\I[0]?=aa f) λf q h hf=>?_
 have V:=Z f (bG hf);have c1:du v (.i 0) (bz C (a:af) T++(G++Y))=aa (.s f):=(S _ _).sub0 (by omega) (by show(I.map AV.s)[0]?=_;rw[bE,hf];rfl);have c2:builtin "len" [v] (bz C (a:af) T++(G++Y))=.k (.i ((1+q:af):aq)) (bz C (a:af) T++(G++Y)):=by rw[(S _ _).len0,az,h,jm]
 have c3:kq "range" [.i 1,.i ((1+q:af):aq)] (bz C (a:af) T++(G++Y))=.k (.r 1 ((1+q:af):aq)) (bz C (a:af) T++(G++Y)):=Dk rfl (c_ #["B$?D}:7uSQ+;ac&&zmea_Af",c,h]);refine lq (QP (n:=n+43) O Q S c Z (dr 1 q) q 1 a f [("texts",v),("take",tk),("out",.s f)] Y (by exact aB #["sL$^RP~4_Ie",h] #["{Q}Y+HyJ<Qq",h]) #[99,c,R,h] #["H}u+{A$ykEpg|Gt",V] ⟨rfl,rfl,rfl⟩) λv1 o p e1 F y=>?_;have c4:items (.r ((1:af):aq) ((1+q:af):aq)) (bz C (a:af) T++(G++Y))=aa (dr 1 q,ah):=Bu #[".`R=IH=ZLiGUktbb)|!~",c,h] #["Qkp81nN"];generalize hB:bz C (a:af) T++(G++Y)=B at c1 c2 c3 c4 e1;refine dp (tD (n:=n+53) (G:=G++p) (T:=T) (a:=a+q) (k:=5) O Q #[99,c,R,h] #["DGI8v"]) λt1 t2=>?_;generalize qQ C (a+q) 5=d at t1 t2;have A:=F.upd "way" (.i (d:af)) #[0] #[0] #[0];have s1:cS PR (n+98) (.a "out" (.u (.v "texts") (lI 0))) ⟨[("texts",v),("take",tk)],[]⟩ B=.k (.n,⟨[("texts",v),("take",tk),("out",.s f)],[]⟩) B:=dQ (s:="out") (I:=⟨[("texts",v),("take",tk)],[]⟩) (eu (aO rfl) bL c1);have s2:=gI (P:=PR) (n:=n+96) (s:="k") (ss:=[.g "out" .Add (.b .Add (.u (.f (.g "_law_bits") []) (.f (.v "take") [lI 12])) (.u (.v "texts") (.v "k")))]) (I:=⟨[("texts",v),("take",tk),("out",.s f)],[]⟩) (e:=.f (.g "range") [lI 1,dm (.v "texts")]) (bU (cC mV) (aS bL (aS (bU (cC gn) (aS (aO rfl) bu) (gM c2)) bu)) (nF c3)) c4 e1;have s3:cS PR (n+96) (.a "way" (.f (.v "take") [lI 5])) ⟨v1,[]⟩ (bz C ((a+q:af):aq) T++(G++p))=.k (.n,⟨bA "way" (.i (d:af)) v1,[]⟩) (bz C ((a+q+1:af):aq) T++(G++p)):=dQ (bU (aO F.take) (aS bL bu) (Bc t1));have run:∀val J σ',dw PR (n+96) [.i (.m (.v "way") .Eq (lI 0)) [.r (.e (.v "out") ah (aa (.n (lI 1))))] [],
  .i (.m (.v "way") .Eq (lI 1)) [.r (.b .Add (.v "out") (.u (.f (.g "_law_bits") []) (.f (.v "take") [lI 12])))] [],
  .i (.m (.v "way") .Eq (lI 2)) [.r (.e (.v "out") (aa (lI 1)) ah)] [],
  .r (.v "out")] ⟨bA "way" (.i (d:af)) v1,[]⟩ (bz C ((a+q+1:af):aq) T++(G++p))=.k (.r val,J) σ'->cg PR (n+100) "_law_fill" [] [v,tk] B=.k val σ':=λval J σ' he=>
  bX (fl:=.r val) (I:=J) (bs:=[("texts",v),("take",tk)]) I9 rfl (aT s1 (aT s2 (aT s3 he))) rfl
 have D:∀N (j:aq),er PR (N+3) ⟨bA "way" (.i (d:af)) v1,[]⟩ (.m (.v "way") .Eq (.l (.i j))) (bz C ((a+q+1:af):aq) T++(G++p))=.k (decide ((d:aq)=j)) (bz C ((a+q+1:af):aq) T++(G++p)):=λN j=>ef (aO (bB)) bL rfl;by_cases d0:(d:aq)=0
 ·refine ba (Lg (U:=bz C ((a+q+1:af):aq) T++(G++p)) (t:=o) #[109,c,y]) λu hu W=>?_;have E:=D (n+91) 0;rw[aI d0]at E;exact l7 u (a+q+1) p (run _ _ _ (cY (dB (r:=ai) E (cY (fi (oX (aO A.out) oM (lG (O' bL)) hu)))))) #["1_gDK)pL~:AY`).eB,ZN%&W=<r",c,y,W] #[72,h]
 ·have E:=D (n+91) 0;rw[aX d0]at E;have i1:=dB (ss1:=[.r (.e (.v "out") ah (aa (.n (lI 1))))]) (ss2:=[]) (r:=aD) E (ix (cG (P:=PR) (n:=n+93)));by_cases d1:(d:aq)=1
  ·have H:=D (n+90) 1;rw[aI d1]at H;refine ba (vO (n:=n+40) (G:=G++p) (T:=T) (J:=⟨bA "way" (.i (d:af)) v1,[]⟩) (L:=uI) (z:=12) (a:=a+q+1) O Q #["5MfBp*t7A9:*bdP=aX'rd^{3HIY>gG4^",c,R,h] #[0] rfl #[0] Bh (λu0 u0=>HF) A.take) λs hs e2=>?_;rw[aj G]at e2;have K:=Bx s hs;exact l7 (o++s) (a+q+1+1) _ (run _ _ _ (aT i1 (cY (dB (r:=ai) H (cY (fi (fX (aO A.out) e2 (o6 #["1tYP?'UlD|F'awBpS^*%jf.p;4b8?hj>",c,y,K])))))))) (by rw[ar];exact#["EC32>U`H6N.~f&iZ`c;)jvdmPtpmj~q",c,y,K]) #["Uc:a(v}>tggMh&<FId",h]
  ·have H:=D (n+90) 1;rw[aX d1]at H;have i2:=dB (ss1:=[.r (.b .Add (.v "out") (.u (.f (.g "_law_bits") []) (.f (.v "take") [lI 12])))]) (ss2:=[]) (r:=aD) H (ix (cG (P:=PR) (n:=n+92)));have M:=D (n+89) 2;by_cases d2:(d:aq)=2
   ·rw[aI d2]at M;have c9:=oq (C:=bz C ((a+q+1:af):aq) T++(G++p)) (t:=o) (i:=1) #[109,c,y] rfl #[0];exact l7 _ (a+q+1) p (run _ _ _ (aT i1 (aT i2 (cY (dB (r:=ai) M (cY (fi (oX (aO A.out) (lG bL) oM c9)))))))) (by rw[cj];exact#["1_gDK)pL~:AY`).eB,ZN%&W=<q",c,y,bY _ _]) #[72,h]
   ·rw[aX d2]at M;have i3:=dB (ss1:=[.r (.e (.v "out") (aa (lI 1)) ah)]) (ss2:=[]) (r:=aD) M (ix (cG (P:=PR) (n:=n+91)));exact l7 o (a+q+1) p (run _ _ _ (aT i1 (aT i2 (aT i3 (cY (fi (aO A.out))))))) #["3DZr6nb&O3xCOb)c^L8enV",c,y] #[72,h]
end
section
variable {S X G Y:St} {v u tv:AV} {vs:ae AV} {l n N p a k tl C J wl:af} {w r m t:ae af} {I:St} {U:ae (aC×af)} {xs h W:ae (ae af)} {ls:ae af}
noncomputable def mF (W h:ae (ae af)) (t:ae af):ae (ae af):=W.flatMap λw=>h.map λo=>w++o++t
structure WS (S:St) (U:ae (aC×af)) (xs h:ae (ae af)) (k tl C J:af) (ls:ae af) (t:ae af):Prop where
 g1:∀X vars,j9 ⟨vars,U⟩ "texts" (S++X)=aa (.l tl)
 g2:∀X vars,j9 ⟨vars,U⟩ "holes" (S++X)=aa (.l C)
 g3:∀X vars,j9 ⟨vars,U⟩ "k" (S++X)=aa (.i (k:af))
 g4:S[tl]?=aa (.l (xs.map .s))
 g5:S[C]?=aa (.l (ls.map .l))
 g6:S[J]?=aa (.l (h.map .s))
 hx:xs[k+1]?=aa t
 hh:ls[k]?=aa J
 lx:(Wb xs)<=1000
 ll:(Wb ls)<=1000
 lt:(Wb t)<=1000
 lh:∀o∈h,(Wb o)<=1000
 lc:(Wb h)<=1000
theorem zU {acc:ae AV} (a:(Wb acc)<=1000000):li S.length v (S++[.l acc])=.k () (S++[.l (acc++[v])]):=by show(match(S++[AO.l acc])[S.length]? with|some (.l vs)=>if bV vs=ai then R.k () ((S++[AO.l acc]).set S.length (.l (vs++[v])))else .b|_=>.b)=_;rw[jf];show(if bV acc=ai then R.k () ((S++[AO.l acc]).set S.length (.l (acc++[v])))else .b)=_;rw[aF (jP a),mi _ _ (bf _),iz];rfl
noncomputable abbrev By:IE:=.b .Add (.b .Add (.v "word") (.v "one")) (.u (.c "texts") (.b .Add (.c "k") (lI 1)))
theorem WS.elt (H:WS S U xs h k tl C J ls t) {o:ae af} (a:(Wb w)<=500000) (b:(Wb o)<=1000):bg PR (n+10) ⟨[("word",.s w),("one",.s o)],U⟩ By (S++X)=.k (.s (w++o++t)) (S++X):=by have c:du (.l tl) (.i ((k:aq)+1)) (S++X)=aa (.s t):=kK (fS H.g4) (by omega) (by rw[show((k:aq)+1).toNat=k+1 from rfl,bE,H.hx];rfl) (by have:=H.lx;rw[az];exact#[3,this]);exact fX (fX (aO rfl) (aO rfl) (o6 #["q2Y&)j*}>YYl%4_UzHy.VZ4zU",a,b])) (eu (gW (H.g1 _ _)) (fX (gW (H.g3 _ _)) bL rfl) c) (o6 (by have:=H.lt;rw[ar];exact#["2z8}3zJ,s:3oUwnFYUgb9!s5pkEhgs%(pNu",a,b,this]))
theorem UI (H:WS S U xs h k tl C J ls t) (f:(Wb w)<=500000):∀(us a:ae (ae af)),(∀o∈us,(Wb o)<=1000)->(Wb a)+(Wb us)<=100000->
  fp (aa J) (h.map .s) (λu I=>(bg PR (n+10) ⟨[("word",.s w),("one",u)],U⟩ By I).bind λz I=>li S.length z I) (us.map .s) (S++[.l (a.map .s)])=.k () (S++[.l ((a++us.map λo=>w++o++t).map .s)]):=by
 intro b;induction b with|nil=>intro a _ _;show(if dU (aa J) (h.map .s) _=ai then _ else _)=_;rw[aF (fg (fS H.g6)),nW,aJ]|cons o us c=>intro a d C;rw[aQ]at C;show(if dU (aa J) (h.map .s) _=ai then(R.bind (bg _ _ _ _ _) _:R dt).bind _ else _)=_;rw[aF (fg (fS H.g6)),H.elt f (d o aH)];show(li _ _ _).bind _=_;rw[zU (by rw[az];exact#[17,C])];have e:=c (a++[w++o++t]) (λo h=>d o (aK _ h)) (by rw[ar,bj];exact#[22,C]);rw[aj a,dh]at e;exact e
theorem Tu (H:WS S U xs h k tl C J ls t) (f:S[wl]?=aa (.l (W.map .s))):∀(ws a:ae (ae af)),(∀w∈ws,(Wb w)<=500000)->(Wb a)+(Wb ws)*(Wb h)<=100000->
  fp (aa wl) (W.map .s) (λv I=>(bg PR (n+10) ⟨[("word",v)],U⟩ (.u (.c "holes") (.c "k")) I).bind λm I=>(opt I (items m I)).bind λb I=>fp b.2 b.1 (λu I=>(bg PR (n+10) ⟨[("word",v),("one",u)],U⟩ By I).bind λz I=>li S.length z I) b.1 I) (ws.map .s) (S++[.l (a.map .s)])=.k () (S++[.l ((a++mF ws h t).map .s)]):=by
 intro d;induction d with|nil=>intro a _ _;show(if dU (aa wl) (W.map .s) _=ai then _ else _)=_;rw[aF (fg (fS f)),show mF [] h t=[]from rfl,aJ]|cons w ws e=>intro a g C;rw[aQ,oQ,jU]at C;have p:du (.l _) (.i (k:af)) (S++[.l (a.map .s)])=aa (.l J):=kK (fS H.g5) (by omega) (by rw[cU,bE,H.hh];rfl) (by have:=H.ll;rw[az];exact#[3,this]);have q:bg PR (n+10) ⟨[("word",.s w)],U⟩ (.u (.c "holes") (.c "k")) (S++[.l (a.map .s)])=.k (.l J) (S++[.l (a.map .s)]):=eu (gW (H.g2 _ _)) (gW (H.g3 _ _)) p;have r:items (.l J) (S++[.l (a.map .s)])=aa (h.map .s,aa J):=kF (fS H.g6) (by have:=H.lc;rw[az];exact#[3,this]);show(if dU (aa wl) (W.map .s) _=ai then(R.bind (bg _ _ _ _ _) _:R dt).bind _ else _)=_;rw[aF (fg (fS f)),q];show(R.bind (opt _ (items _ _)) _:R dt).bind _=_;rw[r];show(fp (aa J) (h.map .s) _ (h.map .s) _).bind _=_;rw[UI H (g w aH) h a H.lh #["M)SfF9?y7ACC<!^O5vhO",C]];have j:=e (a++h.map λo=>w++o++t) (λo h=>g o (aK _ h)) (by rw[ar,az];exact#["3DZr9~:2vRKa,<46{RVQKk",C]);rw[aj a]at j;exact j
theorem QR (H:WS S U xs h k tl C J ls t) (b:S[wl]?=aa (.l (W.map .s))) {fr:AF} (d:fr.c=U) (f:fr.v.lookup "words"=aa (.l wl)) (g:∀w∈W,(Wb w)<=500000) (C:W.length*(Wb h)<=100000) (a:W.length<=100000):
  bg PR (n+11) fr (.q By "word" (.v "words") "one" (.u (.c "holes") (.c "k"))) S=.k (.l S.length) (S++[.l ((mF W h t).map .s)]):=by
 subst d;have i:=kF b (by rw[az];exact#[2,a]);show(bg PR (n+10) fr (.v "words") S).bind _=_;rw[show bg PR (n+10) fr (.v "words") S=.k (.l wl) S from aO f];show(opt S (items _ S)).bind _=_;rw[i];have e:=Tu H b (n:=n) W [] g (by rw[cR];exact#[131,C]);rw[eF]at e;exact aU (λr=>R.bind r λj I=>R.k (AV.l S.length) I) e
end
section
variable {S X G Y:St} {v u tv:AV} {vs:ae AV} {l n N p a k tl I hk wl:af} {w r m t:ae af} {J:St} {U:ae (aC×af)} {xs h W C:ae (ae af)} {ls:ae af} {fr:AF}
noncomputable def sD (ws:ae (ae af)):ae (AV×AV):=ws.map λw=>(.s w,.i 1)
noncomputable def jk (ws:ae (ae af)) (w:ae af):ae (ae af):=if w∈ws then ws else ws++[w]
theorem QS (w:ae af):∀C,oF (.s w) (.i 1) (sD C)=sD (jk C w):=by
 intro a;induction a with
 |nil=>exact rfl
 |cons x C b=>
  have c:=b;show(if decide (x=w)=ai then(AV.s x,AV.i 1)::sD C else(AV.s x,AV.i 1)::oF (.s w) (.i 1) (sD C))=_;by_cases e:x=w
  ·clear c;refine dq e ?_;rw[aI rfl,aF rfl];unfold jk;rw[aF aH];rfl
  ·rw[aX e,aG #[0],c];unfold jk;by_cases hm:w∈C
   ·rw[aF hm,aF (aK _ hm)];rfl
   ·rw[aG hm,aG (λh=>by rcases bw.mp h with h|h;exact e h.symm;exact hm h)];rfl
theorem Li:(sD C).length=(Wb C):=az ..
theorem zV:(jk C w).length<=(Wb C)+1:=by unfold jk;split;exact#[95];rw[ar,bj];exact bf _
theorem HH (I:S[l]?=aa (.d (sD C))) (h:(Wb C)<=1000000):l9 l (.s w) (.i 1) S=.k () (S.set l (.d (sD (jk C w)))):=by
 have hk:d_ (sD C) (.s w)=ai:=by show(ai&&_)=ai;rw[jA];rw[qj];exact cy.mpr λa a=>rfl
 show(match S[l]? with|some (.d es)=>if(d_ es (.s w)&&bV es)=ai then R.k () (S.set l (.d (oF (.s w) (.i 1) es)))else .b|_=>.b)=_;rw[I];show(if(d_ (sD C) (.s w)&&bV (sD C))=ai then R.k () (S.set l (.d (oF (.s w) (.i 1) (sD C))))else .b)=_;rw[hk,jP (by rw[Li];exact h),aF #[0],QS]
theorem QT:(sD C).map lU=C.map AV.s:=by unfold sD;rw[iA];rfl
theorem Jg:∀l:ae (ae af),tI (l.map .s)=aa l:=by
 intro a;induction a with
 |nil=>exact rfl
 |cons x l b=>exact by show(tI (l.map .s)).map _=_;rw[b];rfl
theorem xk:∀ws:ae (ae af),jG (ws.map .s)=aa ((fF gj ws).map .s):=by intro a;induction a with|nil=>exact rfl|cons w ws b=>show(match tI ((w::ws).map .s)with|some ss=>aa ((fF gj ss).map AV.s)|none=>ah)=_;rw[Jg]
theorem Dl (I:S[l]?=aa (.d (sD C))) (h:(Wb C)<=1000000):builtin "sorted" [.l l] S=.k (.l S.length) (S++[.l ((fF gj C).map .s)]):=by show(match S[l]? with|some (.l vs)=>_|some (.d es)=>(if bV es=ai then(match jG (es.map lU)with|some ws=>alloc S (.l ws)|none=>.b)else .b)|_=>_)=_;rw[I];show(if bV (sD C)=ai then(match jG ((sD C).map lU)with|some ws=>alloc S (.l ws)|none=>.b)else .b)=_;rw[aF (jP (by rw[Li];exact h)),QT,xk];rfl
theorem Lj (I:S[l]?=aa (.l (C.map .s))) (h:(Wb C)<=1000000):builtin "sorted" [.l l] S=.k (.l S.length) (S++[.l ((fF gj C).map .s)]):=by show(match S[l]? with|some (.l vs)=>(if bV vs=ai then(match jG vs with|some ws=>alloc S (.l ws)|none=>.b)else .b)|some (.d es)=>_|_=>_)=_;rw[I];show(if bV (C.map AV.s)=ai then(match jG (C.map .s)with|some ws=>alloc S (.l ws)|none=>.b)else .b)=_;rw[aF (jP (by rw[az];exact h)),xk];rfl
theorem HJ {o q:AO}:(S++[o]).set S.length q=S++[q]:=by rw[mi _ _ (bf _),iz];rfl
theorem QU (c:S[wl]?=aa (.l (W.map .s))):∀(ws C:ae (ae af)),(Wb C)+(Wb ws)<=100000->
  fp (aa wl) (W.map .s) (λu J=>(bg PR (n+1) ⟨[("word",u)],U⟩ (.v "word") J).bind λkv J=>(bg PR (n+1) ⟨[("word",u)],U⟩ (lI 1) J).bind λe J=>l9 S.length kv e J) (ws.map .s) (S++[.d (sD C)])=.k () (S++[.d (sD (ws.foldl jk C))]):=by
 intro a;induction a with|nil=>intro C _;show(if dU (aa wl) (W.map .s) _=ai then _ else _)=_;rw[aF (fg (fS c))];rfl|cons w ws b=>intro C I;rw[aQ]at I;show(if dU (aa wl) (W.map .s) _=ai then(l9 S.length (.s w) (.i 1) _).bind _ else _)=_;rw[aF (fg (fS c)),HH jf #[17,I],HJ];exact b (jk C w) (by have:=zV (C:=C) (w:=w);exact#[31,I,this])
theorem UJ (a:S[wl]?=aa (.l (W.map .s))) (I:W.length<=100000) (b:fr.v.lookup "words"=aa (.l wl)):bg PR (n+2) fr (.j (.v "word") (lI 1) "word" (.v "words")) S=.k (.l S.length) (S++[.d (sD (W.foldl jk []))]):=by have f:=kF a (by rw[az];exact#[2,I]);show(bg PR (n+1) fr (.v "words") S).bind _=_;rw[show bg PR (n+1) fr (.v "words") S=.k (.l wl) S from aO b];show(opt S (items _ S)).bind _=_;rw[f];have e:=QU (n:=n) (U:=fr.c) a W [] (by rw[cR];exact#[131,I]);exact aU (λr=>R.bind r λg J=>R.k (AV.l S.length) J) e
noncomputable def tV (w:ae af):bD:=!decide (w=[])&&decide (w=rep [83] (Wb w))
noncomputable abbrev Lk:IS:=.i (.o .And [.m (.v "word") .NotEq (lS []),.m (.v "word") .Eq (.b .Mult (lS [83]) (dm (.v "word")))]) [.r (.s [lS [83]])] []
theorem Tv {z:af} (h:z<=1000000):binop .Mult (.s [83]) (.i (z:af)) J=.k (.s (rep [83] z)) J:=by show(if 0<=((z):aq)/\((z):aq)<=limit/\([83]).length=1 then R.k (AV.s (rep [83] ((z):aq).toNat)) J else .b)=_;rw[aF (dy (by omega) (by unfold limit;omega) rfl),cU]
theorem QV {src:au af} {all:ae AV} (g:dU src all S=ai):∀(ws:ae (ae af)) (vars:ae (aC×AV)),(∀w∈ws,(Wb w)<=1000000)->
  ∃a,eJ src all (λu fr J=>dw PR (n+20) [Lk] {fr with v:=bA "word" u fr.v} J) (ws.map .s) ⟨vars,U⟩ S=.k (if ws.any tV=ai then .r (.l S.length)else .n,⟨a,U⟩) (if ws.any tV=ai then S++[.l [.s [83]]]else S)/\(∀x,x≠"word"->a.lookup x=vars.lookup x):=by
 intro i;induction i with
 |nil=>exactλvars p=>aY vars (iY g) (λp p=>rfl)
 |cons w ws j=>
  intro vars q;have c:=q w aH;have d:er PR (n+18) ⟨bA "word" (.s w) vars,U⟩ (.o .And [.m (.v "word") .NotEq (lS []),.m (.v "word") .Eq (.b .Mult (lS [83]) (dm (.v "word")))]) S=.k (tV w) S:=by have t:er PR (n+16) ⟨bA "word" (.s w) vars,U⟩ (.m (.v "word") .NotEq (lS [])) S=.k (!decide (w=[])) S:=ef (aO (bB)) bL rfl;have y:er PR (n+15) ⟨bA "word" (.s w) vars,U⟩ (.m (.v "word") .Eq (.b .Mult (lS [83]) (dm (.v "word")))) S=.k (decide (w=rep [83] (Wb w))) S:=ef (aO (bB)) (fX bL (bU (cC gn) (aS (aO (bB)) bu) (gM (mc c))) (Tv c)) rfl;refine u_ (lu t ?_);unfold tV;induction !decide (w=[])using b_ with|false=>rfl|true=>refine lu y ?_;cases decide (w=rep [83] (Wb w))<;>rfl
  rw[xo];cases e:tV w with|true=>rw[e]at d;refine aY (bA "word" (.s w) vars) ?_ (λx f=>a_ f);rw[Gs,aF rfl,aF rfl];exact yJ g (cY (dB d (cY (fi (jQ (aS bL bu) rfl)))))|false=>rw[e]at d;refine ba (j (bA "word" (.s w) vars) (λw h=>q w (aK _ h))) λz g1 g2=>?_;rw[xq];exact aY z (fZ g (aT (dB d (ix (cG))) cG) g1) (λx f=>(g2 x f).trans (a_ f))
end
section
variable {B S X G Y Z:St} {v u tv:AV} {vs:ae AV} {l n N p a k I C U wl:af} {w r m t:ae af} {σ:St} {cs:ae (aC×af)} {R h W acc:ae (ae af)} {ls:ae af} {fr:AF} {J:ae (ae (ae af))}
noncomputable def me:ae (ae af)->ae (ae (ae af))->ae (ae af)->au (ae (ae af))
 |W,[],_=>aa W
 |W,h::J,ts=>if 200<W.length*(Wb h)then ah else me (mF W h (ts.headD [])) J ts.tail
noncomputable def CF (W:ae (ae af)):ae (ae af):=if W.any tV=ai then[[83]]else fF gj (W.foldl jk [])
noncomputable def Jh (R:ae (ae af)) (J:ae (ae (ae af))):au (ae (ae af)):=(me [R.headD []] J (R.drop 1)).map CF
theorem Bz (i:af):(B++Z)[(Wb B)+i]?=Z[i]?:=by rw[be #[21],gi]
theorem Vx (i:af) (o:AO):(B++Z).set ((Wb B)+i) o=B++Z.set i o:=by rw[mi _ _ #[21],gi]
noncomputable abbrev rN (B:St):ae (aC×af):=[("texts",(Wb B)+0),("holes",(Wb B)+1),("k",(Wb B)+2)]
noncomputable abbrev jY (B:St) (I C:af) (c:au AV) (Y:St):St:=B++(.c (aa (.l I))::.c (aa (.l C))::.c c::Y)
noncomputable abbrev BA:ae IS:=[.i (.m (.b .Mult (dm (.v "words")) (dm (.u (.c "holes") (.c "k")))) .Gt (lI 200)) [.r (.l (.n))] [],
 .a "words" (.q By "word" (.v "words") "one" (.u (.c "holes") (.c "k")))]
theorem Dm:(mF W h t).length=W.length*(Wb h):=by unfold mF;induction W with|nil=>rw[List.flatMap_nil];exact(qa _).symm|cons w W a=>rw[jx,ar,a,az,aQ,oQ,jU,jm]
theorem Lm {z:ae af} (a:z∈mF W h t):∃w∈W,∃o∈h,z=w++o++t:=by refine ba (gT.mp a) λw c a=>?_;refine ba (bT.mp a) λo d b=>?_;clear a;refine dH b ?_;exact tF w c o d rfl
theorem QW (ht:B[I]?=aa (.l (R.map .s))) (hh:B[C]?=aa (.l (ls.map .l))) (f:(Wb ls)=(Wb J)) (d:R.length=(Wb J)+1) (N:(Wb J)<=100) (hx:∀x∈R,(Wb x)<=1000)
  (V:∀k U:af,ls[k]?=aa U->∃h:ae (ae af),J[k]?=aa h/\B[U]?=aa (AO.l (h.map AV.s))/\(Wb h)<=1000/\∀o∈h,(Wb o)<=1000) (all:ae AV):∀(q k j:af) (W:ae (ae af)) (c:au AV) (Y:St),k+q=(Wb J)->Y[j]?=aa (.l (W.map .s))->W.length<=200->(∀w∈W,(Wb w)<=2000*(k+1))->
  ∃Z O P,eJ ah all (λv fr σ=>match il (.c "k") v fr σ with|some r=>dw PR (n+16) BA r.1 r.2|none=>.b) (dr k q) ⟨[("words",.l ((Wb B)+(3+j)))],rN B⟩ (jY B I C c Y)=
   .k (match me W (J.drop k) (R.drop (k+1))with|none=>.r .n|some _=>.n,⟨[("words",.l ((Wb B)+(3+P)))],rN B⟩) (jY B I C Z O)/\∀y,me W (J.drop k) (R.drop (k+1))=aa y->O[P]?=aa (.l (y.map .s))/\(Wb y)<=200/\∀w∈y,(Wb w)<=2000*((Wb J)+1):=by
 intro Wc;induction Wc with
 |zero=>intro k j W c Y U hY G Q;rw[cF #[90,U]];exact mM c Y j (iY rfl) (λy e=>by cases(aw e:W=y);exact dy hY G (λw h=>by rw[<-U];exact Q w h))
 |succ q Wd=>
  intro k j W c Y a hY G Q;refine ck (⟨ls[k]'#[146,f,a],aR #[146,f,a]⟩:∃U,ls[k]?=aa U) λU A=>?_;refine kn (V k U A) λh K hB D L=>?_;refine ck (⟨R[k+1]'#[6,d,a],aR #[6,d,a]⟩:∃t,R[k+1]?=aa t) λt p=>?_;have We:=hx t (bG p);have d1:J.drop k=h::J.drop (k+1):=by rw[cD #[7,a]];congr 1;rw[aR #[7,a]]at K;exact aw K
  have d2:R.drop (k+1)=t::R.drop (k+1+1):=by rw[cD #[6,d,a]];congr 1;rw[aR #[6,d,a]]at p;exact aw p
  have H:WS (jY B I C (aa (.i (k:af))) Y) (rN B) R h k I C U ls t:={
   g1:=λX vars=>by show(match(jY B I C (aa (.i k)) Y++X)[(Wb B)+0]? with|some (.c v)=>v|_=>ah)=_;rw[fS (Bz 0)]
   g2:=λX vars=>by show(match(jY B I C (aa (.i k)) Y++X)[(Wb B)+1]? with|some (.c v)=>v|_=>ah)=_;rw[fS (Bz 1)]
   g3:=λX vars=>by show(match(jY B I C (aa (.i k)) Y++X)[(Wb B)+2]? with|some (.c v)=>v|_=>ah)=_;rw[fS (Bz 2)]
   g4:=fS ht,g5:=fS hh,g6:=fS hB,hx:=p,hh:=A,lx:=#["7PpT^,+<VWS7Qc3+EWNR",d,N],ll:=#["qy?_(0ZI^*<;N?Dx5p",f,N],lt:=We,lh:=L,lc:=D}
  have hS:(jY B I C (aa (.i (k:af))) Y)[(Wb B)+(3+j)]?=aa (.l (W.map .s)):=(Bz _).trans (by rw[show 3+j=j+3 by exact aB #[196] #[200]];exact hY);have bt:il (.c "k") (.i k) ⟨[("words",.l ((Wb B)+(3+j)))],rN B⟩ (jY B I C c Y)=aa (⟨[("words",.l ((Wb B)+(3+j)))],rN B⟩,jY B I C (aa (.i k)) Y):=by show qi _ (match(jY B I C c Y)[(Wb B)+2]? with|some (.c _)=>aa ((jY B I C c Y).set ((Wb B)+2) (.c (aa (.i k))))|_=>ah)=_;rw[Bz 2,Vx 2];rfl
  have Wf:∀w∈W,(Wb w)<=500000:=λw h=>by have:=Q w h;have:2000*(k+1)<=2000*101:=jE _ #[108,N,a];omega
  generalize E:jY B I C (aa (.i k)) Y=S at H hS bt;have c1:du (.l C) (.i (k:af)) S=aa (.l U):=kK H.g5 (by omega) (by rw[cU,bE,A];rfl) (by rw[az];exact#[114,f,N]);have c2:builtin "len" [.l ((Wb B)+(3+j))] S=.k (.i W.length) S:=by rw[mW hS (by rw[az];exact#[134,G]),az]
  have c3:builtin "len" [.l U] S=.k (.i (Wb h)) S:=by rw[mW H.g6 (by rw[az];exact#[3,D]),az]
  have c4:binop .Mult (.i (W.length:af)) (.i ((Wb h):af)) S=.k (.i ((W.length:aq)*((Wb h):aq))) S:=Fy (c_ #["BqvjZ}b~!i>Ne0`T",G]) (c_ #["BqvjZ}b~!l1;`%Al",D]);have c5:dG .Gt (.i ((W.length:aq)*((Wb h):aq))) (.i 200) S=aa (decide (200<W.length*(Wb h))):=K7;have g2:=H.g2 [];have g3:=H.g3 [];rw[aJ]at g2 g3;have T:er PR (n+14) ⟨[("words",.l ((Wb B)+(3+j)))],rN B⟩ (.m (.b .Mult (dm (.v "words")) (dm (.u (.c "holes") (.c "k")))) .Gt (lI 200)) S=.k (decide (200<W.length*(Wb h))) S:=
   ef (fX (bU (cC gn) (aS (aO rfl) bu) (gM c2)) (bU (cC gn) (aS (eu (gW (g2 _)) (gW (g3 _)) c1) bu) (gM c3)) c4) bL c5
  rw[d1,d2,show me W (h::J.drop (k+1)) (t::R.drop (k+1+1))=if 200<W.length*(Wb h)then ah else me (mF W h t) (J.drop (k+1)) (R.drop (k+1+1))from rfl];by_cases F:200<W.length*(Wb h)
  ·rw[aF F];rw[aI F]at T;refine mM (aa (.i k)) Y j ?_ (λy e=>nomatch e);rw[E];refine yJ rfl ?_;show(match il _ _ _ _ with|some r=>dw PR (n+16) BA r.1 r.2|none=>.b)=_;rw[bt];exact cY (dB T (cY (fi bL)))
  ·rw[aG F];rw[aX F]at T;have e1:=QR (n:=n+2) (fr:=⟨[("words",.l ((Wb B)+(3+j)))],rN B⟩) H hS rfl rfl Wf #["1D;ounv%!E~QI|`n",F] #[135,G];have M:S.length=(Wb B)+(3+(Wb Y)):=by rw[<-E,ar];show _+((Wb Y)+1+1+1)=_;exact aB #["4Ze9XBUC8?caho"] #["mJmp+R'PN1qvwK"]
   have Wg:S++[.l ((mF W h t).map .s)]=jY B I C (aa (.i k)) (Y++[.l ((mF W h t).map .s)]):=by rw[<-E,aj];rfl
   rw[M,Wg]at e1;refine kN (Wd (k+1) (Wb Y) (mF W h t) (aa (.i k)) (Y++[.l ((mF W h t).map .s)]) (by exact aB #[36,a] #[37,a]) (mu ..) (by rw[Dm];exact#[153,F]) (λz hz=>by obtain⟨w,Wh,o,ho,rfl⟩:=Lm hz;have:=Q w Wh;have:=L o ho;rw[ar,ar];omega)) λZ O P g g'=>?_;refine mM Z O P ?_ g';refine fZ rfl ?_ g;show(match il _ _ _ _ with|some r=>dw PR (n+16) BA r.1 r.2|none=>.b)=_;rw[bt];exact aT (dB T (ix (cG))) (aT (dQ e1) cG)
end
section
variable {B S X G Y Z:St} {v u tv:AV} {vs:ae AV} {l n N p a k C I hk wl:af} {w r m t:ae af} {σ:St} {cs:ae (aC×af)} {U h W J:ae (ae af)} {ls:ae af} {fr:AF} {R:ae (ae (ae af))}
theorem Ji:j8 ["texts","holes","k"] [("texts",.l C),("holes",.l I)] B=(rN B,jY B C I ah []):=by show(([("texts",(Wb B)),("holes",(B++[AO.c (aa (.l C))]).length),("k",(B++[AO.c (aa (.l C))]++[AO.c (aa (.l I))]).length)]:ae (aC×af)),B++[AO.c (aa (.l C))]++[AO.c (aa (.l I))]++[AO.c ah])=_;rw[ar,ar,ar,aj,aj];rfl
theorem wS (W:ae (ae af)):∀J,(W.foldl jk J).length<=(Wb J)+W.length:=by induction W with|nil=>exactλJ=>bf _|cons w W a=>intro J;have:=a (jk J w);have:=zV (C:=J) (w:=w);rw[kh,aQ];exact#[71,(by assumption),this]
theorem NH (Q:B[C]?=aa (.l (U.map .s))) (T:B[I]?=aa (.l (ls.map .l))) (q:(Wb ls)=R.length) (p:(Wb U)=R.length+1) (y:R.length<=100) (V:∀x∈U,(Wb x)<=1000)
  (H:∀k hk:af,ls[k]?=aa hk->∃h:ae (ae af),R[k]?=aa h/\B[hk]?=aa (AO.l (h.map AV.s))/\(Wb h)<=1000/\∀o∈h,(Wb o)<=1000):
  ∃val X,cg PR (n+40) "_law_words" [] [.l C,.l I] B=.k val (B++X)/\iC (Jh U R) val (B++X):=by
 refine ck (⟨U[0]'#[61,p],aR #[61,p]⟩:∃f,U[0]?=aa f) λf z=>?_;have Wc:=V f (bG z);have A:U.headD []=f:=by match U,z with|x::U,z=>exact aw z
 refine kN (QW (n:=n+20) Q T q p y V H (dr 0 R.length) R.length 0 0 [f] ah [.l ([f].map .s)] (by exact aB #[97] #[96]) rfl (by rw[bj];exact#["j&YNDc"]) (λw Z=>by rw[aL]at Z;clear z A;refine dq Z ?_;omega)) λb j t e2 g2=>?_;rw[gB,eQ]at e2 g2;have c1:du (.l C) (.i 0) (jY B C I ah [])=aa (.s f):=kK (fS Q) #[0] (by show(U.map AV.s)[0]?=_;rw[bE,z];rfl) (by rw[az];exact#[111,p,y]);have q1:∀vars Y,j9 ⟨vars,rN B⟩ "texts" (jY B C I ah Y)=aa (.l C):=λvars Y=>by show(match(jY B C I ah Y)[(Wb B)+0]? with|some (.c v)=>v|_=>ah)=_;rw[Bz 0];rfl
 have q2:∀vars Y,j9 ⟨vars,rN B⟩ "holes" (jY B C I ah Y)=aa (.l I):=λvars Y=>by show(match(jY B C I ah Y)[(Wb B)+1]? with|some (.c v)=>v|_=>ah)=_;rw[Bz 1];rfl
 have D:(jY B C I ah []).length=(Wb B)+(3+0):=by rw[ar];rfl
 have J:jY B C I ah []++[.l ([f].map .s)]=jY B C I ah [.l ([f].map .s)]:=by rw[aj];rfl
 have K:cS PR (n+38) (.a "words" (.s [.u (.c "texts") (lI 0)])) ⟨[],rN B⟩ (jY B C I ah [])=.k (.n,⟨[("words",.l ((Wb B)+(3+0)))],rN B⟩) (jY B C I ah [.l ([f].map .s)]):=by rw[<-J,<-D];exact dQ (s:="words") (I:=⟨[],rN B⟩) (jQ (aS (eu (gW (q1 _ _)) bL c1) bu) rfl)
 have c2:builtin "len" [.l I] (jY B C I ah [.l ([f].map .s)])=.k (.i (R.length:af)) (jY B C I ah [.l ([f].map .s)]):=by rw[mW (fS T) (by rw[az];exact#[114,q,y]),az,q]
 have c3:=mE (I:=jY B C I ah [.l ([f].map .s)]) (c_ (m:=R.length) #[50,y]);have c4:items (.r 0 (R.length:af)) (jY B C I ah [.l ([f].map .s)])=aa (dr 0 R.length,ah):=by rw[kE rfl (c_ #[50,y]) (by omega),nJ]
 have E:=S9 (P:=PR) (n:=n+36) (s:="k") (ss:=BA) (I:=⟨[("words",.l ((Wb B)+(3+0)))],rN B⟩) (e:=.f (.g "range") [dm (.c "holes")]) (bU (cC mV) (aS (bU (cC gn) (aS (gW (q2 _ _)) bu) (gM c2)) bu) (nF c3)) c4 e2;unfold Jh;rw[A];cases L:me [f] R (U.drop 1)with
 |none=>rw[L]at E;refine dY .n (.c (aa (.l C))::.c (aa (.l I))::.c b::j) ?_ rfl;exact mU (fl:=.r .n) (bs:=[("texts",.l C),("holes",.l I)]) vd rfl rfl Ji (aT K (cY E)) rfl
 |some W=>
  rw[L]at E;refine iK (g2 W L) λw1 M w3=>?_;have N:(jY B C I b j)[(Wb B)+(3+t)]?=aa (.l (W.map .s)):=(Bz _).trans (by rw[show 3+t=t+3 by exact aB #[196] #[200]];exact w1);refine ba (QV (n:=n+15) (U:=rN B) (src:=aa ((Wb B)+(3+t))) (fg N) W [("words",.l ((Wb B)+(3+t)))] (λw h=>by have:=w3 w h;have:2000*(R.length+1)<=2000*101:=jE _ #["1H(QX23OSwny,3lb",y];omega)) λv3 e3 O=>?_;have c5:items (.l ((Wb B)+(3+t))) (jY B C I b j)=aa (W.map .s,aa ((Wb B)+(3+t))):=kF N (by rw[az];exact#[134,M]);have G:=gI (P:=PR) (n:=n+35) (s:="word") (ss:=[Lk]) (e:=.v "words") (aO rfl) c5 e3;show∃val X,_/\iC (aa (CF W)) val (B++X);unfold CF;cases hA:W.any tV with
  |true=>
   rw[hA,aF rfl,aF rfl]at G;rw[aF rfl];refine dY (.l (jY B C I b j).length) (.c (aa (.l C))::.c (aa (.l I))::.c b::j++[.l [.s [83]]]) ?_ (aY _ rfl ?_)
   ·rw[<-aj];exact mU (fl:=.r (.l (jY B C I b j).length)) (bs:=[("texts",.l C),("holes",.l I)]) vd rfl rfl Ji (aT K (aT E (cY G))) rfl
   ·rw[<-aj];exact jf
  |false=>
   rw[hA,aG #[0],aG #[0]]at G;rw[aG #[0]];have e4:=UJ (n:=n+30) (fr:=⟨v3,rN B⟩) N #[135,M] ((O "words" #[0]).trans rfl);have F:=wS W [];rw[cR]at F;have c6:=Dl (S:=jY B C I b j++[AO.d (sD (W.foldl jk []))]) jf #["}+JR7Wivo(N!C{EZ;sL?j",M,F];refine dY (.l (jY B C I b j++[AO.d (sD (W.foldl jk []))]).length) (.c (aa (.l C))::.c (aa (.l I))::.c b::j++[AO.d (sD (W.foldl jk []))]++[AO.l ((fF gj (W.foldl jk [])).map .s)]) ?_ (aY _ rfl ?_)
   ·rw[<-aj,<-aj];exact mU (fl:=.r (.l (jY B C I b j++[AO.d (sD (W.foldl jk []))]).length)) (I:=⟨v3,rN B⟩) (bs:=[("texts",.l C),("holes",.l I)]) vd rfl rfl Ji (aT K (aT E (aT G (cY (fi (bU (cC zO) (aS e4 bu) (gM c6))))))) rfl
   ·rw[<-aj,<-aj];exact jf
end
section
variable {B S X G Y Z:St} {v u tv:AV} {vs:ae AV} {l n N p a k sl:af} {w r m t:ae af} {U:St} {I h W acc:ae (ae af)} {J:ae aq} {fr:AF} {C:ae (aq×ae af)} {nu:ae aq} {at_:aq} {T:ae Row}
noncomputable def uJ (C:ae (aq×ae af)):ae (AV×AV):=C.map λe=>(.i e.1,.s e.2)
noncomputable def kU:ae (aq×ae af)->aq->ae af
 |[],_=>[63]
 |e::C,x=>if e.1=x then e.2 else kU C x
theorem QX (x:aq):∀C:ae (aq×ae af),(iX (uJ C) (.i x)).getD (.s [63])=.s (kU C x):=by
 intro a;induction a with
 |nil=>exact rfl
 |cons e C b=>
  have c:=b;unfold kU;unfold iX at c⊢;show(qi _ (B0 (λe=>dO e.1 (.i x)) ((AV.i e.1,AV.s e.2)::uJ C))).getD _=_;rw[ik,show dO (AV.i e.1) (.i x)=decide (e.1=x)from rfl];by_cases h:e.1=x
  ·rw[aI h,aF h];rfl
  ·rw[aX h,aG h];exact c
theorem Lo {x:aq} (a:U[sl]?=aa (.d (uJ C))):jg "dict.get" (.l sl) [.i x,.s [63]] U=.k (.s (kU C x)) U:=by
 show(match U[sl]? with|some (.d es)=>(if d_ es (.i x)=ai then R.k ((iX es (.i x)).getD (.s [63])) U else .b)|_=>.b)=_;rw[a];have hk:d_ (uJ C) (.i x)=ai:=by show(ai&&_)=ai;rw[jA];unfold uJ;rw[qj];exact cy.mpr λc c=>rfl
 show(if d_ (uJ C) (.i x)=ai then R.k ((iX (uJ C) (.i x)).getD (.s [63])) U else .b)=_;rw[aF hk,QX]
theorem QY (h:∀e∈C,e.2.length<=10) (x:aq):(kU C x).length<=10:=by
 induction C with
 |nil=>exact(by decide:([63]).length<=10)
 |cons e C a=>
  unfold kU;split
  ·exact h e aH
  ·exact a λe b=>h e (aK _ b)
noncomputable def uK (C:ae (aq×ae af)):ae aq->ae (ae af)->ae af
 |[],_=>[]
 |t::J,I=>kU C t++I.headD []++uK C J I.tail
noncomputable def gJ (T:ae Row) (C:ae (aq×ae af)) (q:aq):ae af:=match cL T q with|.s s f=>s++rep [33] f.toNat|.t I J=>if(Wb I)=(Wb J)+1 then I.headD []++uK C J I.tail else kU C q|_=>kU C q
theorem Tw {c z:af} (h:z<=1000000):binop .Mult (.s [c]) (.i (z:af)) U=.k (.s (rep [c] z)) U:=by show(if 0<=((z):aq)/\((z):aq)<=limit/\([c]).length=1 then R.k (AV.s (rep [c] ((z):aq).toNat)) U else .b)=_;rw[aF (dy (by omega) (by unfold limit;omega) rfl),cU]
structure RW (vars:ae (aC×AV)) (rv:AV) (sl:af) (w:ae af):Prop where
 row:vars.lookup "row"=aa rv
 signs:vars.lookup "signs"=aa (.l sl)
 word:vars.lookup "word"=aa (.s w)
noncomputable abbrev Jj:IS:=.g "word" .Add (.b .Add (.h (.v "signs") "get" [.u (eU 2) (.v "k"),lS [63]]) (.u (eU 1) (.b .Add (.v "k") (lI 1))))
theorem QZ (z:U[sl]?=aa (.d (uJ C))) (E:∀e∈C,e.2.length<=10) (a:(Wb I)=(Wb J)+1) (j:(Wb J)<=100) (G:∀x∈I,(Wb x)<=500) (all:ae AV):∀(q k:af) (w:ae af) (vars:ae (aC×AV)),k+q=(Wb J)->(Wb w)<=1000*(k+1)->RW vars (dA (.t I J)) sl w->
  ∃b,eJ ah all (λu fr U=>dw PR (n+20) [Jj] {fr with v:=bA "k" u fr.v} U) (dr k q) ⟨vars,[]⟩ U=.k (.n,⟨b,[]⟩) U/\RW b (dA (.t I J)) sl (w++uK C (J.drop k) (I.drop (k+1)))/\(w++uK C (J.drop k) (I.drop (k+1))).length<=1000*((Wb J)+1)/\(∀x,x≠"k"->x≠"word"->b.lookup x=vars.lookup x):=by
 intro m;induction m with
 |zero=>intro k w vars hk h F;rw[cF #[90,hk],show uK C [] (I.drop (k+1))=[]from rfl,aJ];exact kO vars (iY rfl) F (by rw[<-hk];exact h) (λA A A=>rfl)
 |succ q o=>
  intro k w vars hk h F;refine ck (⟨J[k]'#[7,hk],aR #[7,hk]⟩:∃t,J[k]?=aa t) λt p=>?_;refine ck (⟨I[k+1]'#[6,a,hk],aR #[6,a,hk]⟩:∃x,I[k+1]?=aa x) λx c=>?_;have f:=G x (bG c);have g:=QY E t;have H:J.drop k=t::J.drop (k+1):=by rw[cD #[7,hk]];congr 1;rw[aR #[7,hk]]at p;exact aw p
  have K:I.drop (k+1)=x::I.drop (k+1+1):=by rw[cD #[6,a,hk]];congr 1;rw[aR #[6,a,hk]]at c;exact aw c
  have L:du (dA (.t I J)) (.i 2) U=aa (.t (J.map .i)):=rfl;have M:du (dA (.t I J)) (.i 1) U=aa (.t (I.map .s)):=rfl;have N:du (.t (J.map .i)) (.i (k:af)) U=aa (.i t):=pG (by omega) (by rw[cU,bE,p];rfl) (by rw[az];exact#[76,j]);have O:du (.t (I.map .s)) (.i ((k:aq)+1)) U=aa (.s x):=pG (by omega) (by rw[show((k:aq)+1).toNat=k+1 from rfl,bE,c];rfl) (by rw[az];exact#[111,a,j]);have P:=Lo (x:=t) z;have g1:(bA "k" (.i (k:af)) vars).lookup "row"=aa (dA (.t I J)):=b9 F.row;have g2:(bA "k" (.i (k:af)) vars).lookup "signs"=aa (.l sl):=b9 F.signs;have g3:(bA "k" (.i (k:af)) vars).lookup "word"=aa (.s w):=b9 F.word;have r:1000*(k+1)<=1000*101:=jE _ #[108,j,hk];have st:cS PR (n+19) Jj ⟨bA "k" (.i k) vars,[]⟩ U=.k (.n,⟨bA "word" (.s (w++(kU C t++x))) (bA "k" (.i k) vars),[]⟩) U:=
   Be g3 (fX (IW (aO g2) z (aS (eu (eu (aO g1) bL L) (aO (bB)) N) (aS bL bu)) P) (eu (eu (aO g1) bL M) (fX (aO (bB)) bL rfl) O) (o6 #["}+JRB{TUZ4(+<(YF2S^P(",f,g])) (jP (by rw[ar,ar];exact#["4iqowO?vFXV_eoYuS4m=AkY$4`Fj'AJ>m7|0c4wMru^=q",h,f,g,r]))
  refine kn (o (k+1) (w++(kU C t++x)) (bA "word" (.s (w++(kU C t++x))) (bA "k" (.i k) vars)) (by exact aB #[36,hk] #[37,hk]) (by rw[ar,ar];exact#["BLVxp;`0rxP&q^xXpB.N|`d8qA0;EZJ_q",h,f,g])
   ⟨b9 g1,b9 g2,bB⟩) λQ R S T V=>?_
  have W:w++uK C (J.drop k) (I.drop (k+1))=w++(kU C t++x)++uK C (J.drop (k+1)) (I.drop (k+1+1)):=by rw[H,K];show w++(kU C t++x++uK C (J.drop (k+1)) (I.drop (k+1+1)))=_;rw[<-aj]
  rw[W];exact kO Q (fZ rfl (aT st (cG)) R) S T (λy B D=>(V y B D).trans ((a_ D).trans (a_ B)))
end
section
variable {B S X G Y Z:St} {v u tv:AV} {vs:ae AV} {l n N p a k sl:af} {w r m t:ae af} {R:St} {U h W J:ae (ae af)} {ts:ae aq} {fr:AF} {sg:ae (aq×ae af)} {nu:ae aq} {I:aq} {T:ae Row}
theorem Q0 (c:af):∀z,(rep [c] z).length=z:=by intro a;induction a with|zero=>exact rfl|succ z b=>exact aU (·+1) (b)
def vP (T:ae Row) (q:aq):Prop:=je T q/\match cL T q with|.s s f=>(Wb s)<=100000/\0<=f/\f<=1000|.t U ts=>(Wb ts)<=100/\(Wb U)=(Wb ts)+1/\∀x∈U,(Wb x)<=500|_=>True
noncomputable abbrev x5:ae IS:=[.a "row" (.h (.v "tab") "row" [.v "part"]),
 .i (.m (eU 0) .Eq (.g "Y_STR")) [.e (.h (.v "out") "append" [.b .Add (eU 1) (.b .Mult (lS [33]) (eU 2))])] [.i (.o .And [.m (eU 0) .Eq (.g "Y_TPL"),.m (dm (eU 1)) .Eq (.b .Add (dm (eU 2)) (lI 1))]) [.a "word" (.u (eU 1) (lI 0)),
 .f (.v "k") (.f (.g "range") [dm (eU 2)]) [Jj],
 .e (.h (.v "out") "append" [.v "word"])] [.e (.h (.v "out") "append" [.h (.v "signs") "get" [.v "part",lS [63]]])]]]
structure RO (vars:ae (aC×AV)) (sl ol:af):Prop where
 tab:vars.lookup "tab"=aa (.l 6)
 signs:vars.lookup "signs"=aa (.l sl)
 out:vars.lookup "out"=aa (.l ol)
variable {C:ae (aC×AV)}
theorem RO.upd {ol:af} (h:RO C sl ol) (x:aC) (u:AV) (a:"tab"≠x) (b:"signs"≠x) (c:"out"≠x):RO (bA x u C) sl ol:=⟨(a_ a).trans h.tab,(a_ b).trans h.signs,(a_ c).trans h.out⟩
theorem UK {U:ae (ae af)} {x:ae af} (h:U[0]?=aa x):U.headD []=x:=by induction U using aV with|nil=>exact nomatch h|cons y a=>exact aw h
theorem Q1 {q:aq} (hT:(Wb T)<=1000000) (V:vP T q) (hl:(bz nu I T++G)[sl]?=aa (.d (uJ sg))) (hs:∀e∈sg,e.2.length<=10) (K:(Wb J)<=100000) (F:RO C sl (bz nu I T++G).length):
  ∃j,dw PR (n+60) x5 ⟨bA "part" (.i q) C,[]⟩ (bz nu I T++G++[.l (J.map .s)])=.k (.n,⟨j,[]⟩) (bz nu I T++G++[.l ((J++[gJ T sg q]).map .s)])/\RO j sl (bz nu I T++G).length:=by
 have W:=F.upd "part" (.i q) #[0] #[0] #[0];have E:=W.upd "row" (dA (cL T q)) #[0] #[0] #[0];have Q:=K2 (n:=n+36) (J:=nu) (C:=I) (G:=G++[.l (J.map .s)]) V.1.1 V.1.at hT;rw[<-aj]at Q;have Wg:∀{b:AO},(bz nu I T++G)[6]?=aa b->(bz nu I T++G++[.l (J.map .s)])[6]?=aa b:=λh=>fS h;have L:(bz nu I T++G++[.l (J.map .s)])[6]?=aa (.i "TypeTable" 5):=fS rfl;have M:(bz nu I T++G++[.l (J.map .s)])[5]?=aa (.n Te):=fS rfl;have o:∀w,jg "list.append" (.l (bz nu I T++G).length) [.s w] (bz nu I T++G++[.l (J.map .s)])=.k .n (bz nu I T++G++[.l ((J++[w]).map .s)]):=λw=>by rw[NA (by rw[az];exact#[2,K]),dh];rfl
 have u:(bz nu I T++G++[.l (J.map .s)])[sl]?=aa (.d (uJ sg)):=fS hl;have p:(bz nu I T++G++[.l (J.map .s)])[(bz nu I T++G).length]?=aa (.l (J.map .s)):=jf;generalize(bz nu I T++G).length=ol at W E o p;generalize bz nu I T++G++[.l (J.map .s)]=R at Q L M u p o;have X:cS PR (n+59) (.a "row" (.h (.v "tab") "row" [.v "part"])) ⟨bA "part" (.i q) C,[]⟩ R=.k (.n,⟨bA "row" (dA (cL T q)) (bA "part" (.i q) C),[]⟩) R:=
  dQ (Ba (aO W.tab) L M rfl rfl (aS (aO (bB)) bu) (jX Q))
 have Y:=xW (I:=R) (cL T q);have A:er PR (n+57) ⟨bA "row" (dA (cL T q)) (bA "part" (.i q) C),[]⟩ (.m (eU 0) .Eq (.g "Y_STR")) R=.k (decide (kd (cL T q)=3)) R:=ef (eu (aO (bB)) bL Y) (cC Qd) rfl;have N:er PR (n+53) ⟨bA "row" (dA (cL T q)) (bA "part" (.i q) C),[]⟩ (.m (eU 0) .Eq (.g "Y_TPL")) R=.k (decide (kd (cL T q)=18)) R:=ef (eu (aO (bB)) bL Y) (cC Hx) rfl;have y:=V.2;have gq:(bA "row" (dA (cL T q)) (bA "part" (.i q) C)).lookup "part"=aa (.i q):=b9 (bB);have H:(bA "row" (dA (cL T q)) (bA "part" (.i q) C)).lookup "row"=aa (dA (cL T q)):=bB;have O:kd (cL T q)≠3->kd (cL T q)≠18->gJ T sg q=kU sg q->∃j,dw PR (n+60) x5 ⟨bA "part" (.i q) C,[]⟩ R=.k (.n,⟨j,[]⟩) (bz nu I T++G++[.l ((J++[gJ T sg q]).map .s)])/\RO j sl ol:=λB D hr=>by rw[aX B]at A;rw[aX D]at N;rw[hr];refine aY _ (aT X (aT (dB (r:=aD) A (ix (aT (dB (r:=aD) (u_ (lu N rfl)) (ix ?_)) cG))) cG)) E;exact aT (mC (mD (aO E.out) p (aS (IW (aO E.signs) u (aS (aO gq) (aS bL bu)) (Lo u)) bu) (o _))) cG
 unfold gJ at O⊢;generalize cL T q=Z at*;clear Q Y gq;induction Z using kZ with
 |s s f=>refine iK y ?_;clear y;intro f1 f2 f3;refine ck (h_ f2) λf Wc=>?_;obtain rfl:=Wc;have A:er PR (n+57) _ _ R=.k ai R:=A;refine aY _ (aT X (aT (dB (r:=ai) A (nG ?_)) cG)) E;exact aT (mC (mD (aO E.out) p (aS (fX (eu (aO H) bL rfl) (fX bL (eu (aO H) bL rfl) (Tw (c:=33) (z:=f) (by omega))) (o6 (by rw[Q0];omega))) bu) (o _))) cG
 |t U ts=>
  refine iK y ?_;clear y;intro B D h3;have A:er PR (n+57) _ _ R=.k aD R:=A;have N:er PR (n+53) _ _ R=.k ai R:=N;have d1:builtin "len" [.t (U.map .s)] R=.k (.i ((Wb U):af)) R:=by rw[yN (by rw[az];exact#[112,B,D]),az]
  have d2:builtin "len" [.t (ts.map .i)] R=.k (.i ((Wb ts):af)) R:=by rw[yN (by rw[az];exact#[76,B]),az]
  have T3:er PR (n+52) ⟨bA "row" (dA (.t U ts)) (bA "part" (.i q) C),[]⟩ (.m (dm (eU 1)) .Eq (.b .Add (dm (eU 2)) (lI 1))) R=.k ai R:=
   ef (bU (cC gn) (aS (eu (aO H) bL rfl) bu) (gM d1)) (fX (bU (cC gn) (aS (eu (aO H) bL rfl) bu) (gM d2)) bL rfl) (IR (by omega))
  refine ck (⟨U[0]'#[61,D],aR #[61,D]⟩:∃x,U[0]?=aa x) λx hx=>?_;have Wd:U.headD []=x:=UK hx;have We:=h3 x (bG hx);have d3:du (.t (U.map .s)) (.i 0) R=aa (.s x):=pG (by omega) (by show(U.map AV.s)[0]?=_;rw[bE,hx];rfl) (by rw[az];exact#[112,B,D]);have d4:=mE (I:=R) (c_ (m:=(Wb ts)) #[50,B]);have d5:items (.r 0 ((Wb ts):af)) R=aa (dr 0 (Wb ts),ah):=by rw[kE rfl (c_ #[50,B]) (by omega),nJ]
  have S:=E.upd "word" (.s x) #[0] #[0] #[0];have P:(bA "word" (.s x) (bA "row" (dA (.t U ts)) (bA "part" (.i q) C))).lookup "row"=aa (dA (.t U ts)):=b9 H;refine kn (QZ (n:=n+32) (w:=x) u hs D B h3 (dr 0 (Wb ts)) (Wb ts) 0 (bA "word" (.s x) (bA "row" (dA (.t U ts)) (bA "part" (.i q) C))) (by exact aB #[97] #[96]) #["2fK?:e.nzyxh!os5j",We] ⟨P,S.signs,bB⟩) λv' e1 e2 e3 e4=>?_;rw[gB,eQ]at e2;have F4:RO v' sl ol:=⟨(e4 _ #[0] #[0]).trans S.tab,(e4 _ #[0] #[0]).trans S.signs,(e4 _ #[0] #[0]).trans S.out⟩
  have Wf:(if(Wb U)=(Wb ts)+1 then U.headD []++uK sg ts U.tail else kU sg q)=x++uK sg ts (U.drop 1):=by rw[aF D,Wd,DX]
  show∃j,dw PR (n+60) x5 _ R=.k (.n,⟨j,[]⟩) (bz nu I T++G++[.l ((J++[if(Wb U)=(Wb ts)+1 then U.headD []++uK sg ts U.tail else kU sg q]).map .s)])/\_;rw[Wf];refine aY _ (aT X (aT (dB (r:=aD) A (ix (aT (dB (r:=ai) (u_ (lu N (nG (lu T3 rfl)))) (nG ?_)) cG))) cG)) F4;refine aT (dQ (eu (eu (aO H) bL rfl) bL d3)) (aT (gI (bU (cC mV) (aS (bU (cC gn) (aS (eu (aO P) bL rfl) bu) (gM d2)) bu) (nF d4)) d5 e1) ?_);exact aT (mC (mD (aO F4.out) p (aS (aO e2.word) bu) (o _))) cG
 |_=>exact O (by simp[kd]) (by simp[kd]) rfl
end
section
variable {B S X G Y Z:St} {v u tv:AV} {vs:ae AV} {l n N p a k U:af} {w r m t:ae af} {σ:St} {xs h W J:ae (ae af)} {ts:ae aq} {fr:AF} {R:ae (aq×ae af)} {I:ae aq} {C:aq} {T:ae Row}
theorem Tx (o:(Wb T)<=1000000) (p:(bz I C T++G)[U]?=aa (.d (uJ R))) (r:∀e∈R,e.2.length<=10) (all:ae AV):∀(b:ae aq) (J:ae (ae af)) (vars:ae (aC×AV)),(∀q∈b,vP T q)->(Wb J)+(Wb b)<=100000->RO vars U (bz I C T++G).length->
  ∃a,eJ ah all (λu fr σ=>dw PR (n+60) x5 {fr with v:=bA "part" u fr.v} σ) (b.map .i) ⟨vars,[]⟩ (bz I C T++G++[.l (J.map .s)])=.k (.n,⟨a,[]⟩) (bz I C T++G++[.l ((J++b.map (gJ T R)).map .s)])/\RO a U (bz I C T++G).length:=by
 intro c;induction c with|nil=>exactλJ vars t t F=>aY vars (by rw[nW,nW,aJ];exact iY rfl) F|cons q b f=>intro J vars j g F;rw[aQ]at g;refine ba (Q1 (n:=n) (J:=J) o (j q aH) p r #[48,g] F) λv1 w x=>?_;refine ba (f (J++[gJ T R q]) v1 (λq h=>j q (aK _ h)) (by rw[ar,bj];exact#[22,g]) x) λy m z=>?_;rw[aj J]at m;exact aY y (fZ rfl w m) z
theorem Q2 {t:aq} (c:(Wb T)<=1000000) (h:je T t) (o:∀q∈bQ T t,vP T q) (b:(bQ T t).length<=10000) (p:(bz I C T++G)[U]?=aa (.d (uJ R))) (u:∀e∈R,e.2.length<=10):
  ∃val X,cg PR (n+100) "_law_read" [] [.l 6,.i t,.l U] (bz I C T++G)=.k val (bz I C T++G++X)/\iC (aa (fF gj ((bQ T t).map (gJ T R)))) val (bz I C T++G++X):=by
 have j:=wN (n:=n+74) (I:=I) (C:=C) (G:=G++[.l []]) h.1 h.at c;rw[<-aj]at j;have w:items (.t ((bQ T t).map .i)) (bz I C T++G++[.l []])=aa ((bQ T t).map .i,ah):=by show(if bV ((bQ T t).map AV.i)=ai then _ else _)=_;rw[aF (jP (by rw[az];exact#[12,b]))]
 refine ba (Tx (n:=n+36) c p u ((bQ T t).map .i) (bQ T t) [] [("tab",.l 6),("t",.i t),("signs",.l U),("out",.l (bz I C T++G).length)] o (by rw[cR];exact#[130,b]) ⟨rfl,rfl,rfl⟩) λv1 m F=>?_;rw[eF,nW]at m;have x:cS PR (n+98) (.a "out" (.s [])) ⟨[("tab",.l 6),("t",.i t),("signs",.l U)],[]⟩ (bz I C T++G)=.k (.n,⟨[("tab",.l 6),("t",.i t),("signs",.l U),("out",.l (bz I C T++G).length)],[]⟩) (bz I C T++G++[.l []]):=dQ (s:="out") (I:=⟨[("tab",.l 6),("t",.i t),("signs",.l U)],[]⟩) (jQ bu rfl);have y:=gI (P:=PR) (n:=n+96) (s:="part") (ss:=x5) (I:=⟨[("tab",.l 6),("t",.i t),("signs",.l U),("out",.l (bz I C T++G).length)],[]⟩) (e:=.f (.g "parts_of") [.v "tab",.v "t"]) (bU (cC Bf) (aS (aO rfl) (aS (aO rfl) bu)) (jX j)) w m;have z:=Lj (S:=bz I C T++G++[.l (((bQ T t).map (gJ T R)).map .s)]) (C:=(bQ T t).map (gJ T R)) jf (by rw[az];exact#[12,b]);refine dY (.l (bz I C T++G++[AO.l (((bQ T t).map (gJ T R)).map .s)]).length) ([AO.l (((bQ T t).map (gJ T R)).map .s),AO.l ((fF gj ((bQ T t).map (gJ T R))).map .s)]) ?_ (aY _ rfl ?_)
 ·rw[show bz I C T++G++[AO.l (((bQ T t).map (gJ T R)).map .s),AO.l ((fF gj ((bQ T t).map (gJ T R))).map .s)]=bz I C T++G++[AO.l (((bQ T t).map (gJ T R)).map .s)]++[AO.l ((fF gj ((bQ T t).map (gJ T R))).map .s)]by rw[aj (bz I C T++G)];rfl];exact bX (fl:=.r (.l (bz I C T++G++[AO.l (((bQ T t).map (gJ T R)).map .s)]).length)) (I:=⟨v1,[]⟩) (bs:=[("tab",.l 6),("t",.i t),("signs",.l U)]) I8 rfl (aT x (aT y (cY (fi (bU (cC zO) (aS (aO F.out) bu) (gM z)))))) rfl
 ·rw[show bz I C T++G++[AO.l (((bQ T t).map (gJ T R)).map .s),AO.l ((fF gj ((bQ T t).map (gJ T R))).map .s)]=bz I C T++G++[AO.l (((bQ T t).map (gJ T R)).map .s)]++[AO.l ((fF gj ((bQ T t).map (gJ T R))).map .s)]by rw[aj (bz I C T++G)];rfl];exact jf
end
section
variable {B S X G Y Z:St} {v u tv:AV} {vs:ae AV} {l n N p a k sl I:af} {w r m t:ae af} {σ:St} {ts:ae aq} {fr:AF} {C:ae aq} {T:ae Row} {J:ae (aC×af)}
structure Sk where
 ty:aq
 wl:af
 so:ae af
noncomputable def Sk.av (o:Sk):AV:=.t [.i o.ty,.l o.wl,.s o.so]
structure HC (G:St) (J:ae (aC×af)) (C:ae aq) (I:af) (SK:ae Sk):Prop where
 take:∀(a:aq) T X vars,j9 ⟨vars,J⟩ "take" (bz C a T++(G++X))=aa tk
 stock:∀(a:aq) T X vars,j9 ⟨vars,J⟩ "stock" (bz C a T++(G++X))=aa (.l I)
 at_:∀(a:aq) T X,(bz C a T++(G++X))[I]?=aa (.l (SK.map Sk.av))
theorem Q3 {e:ae Sk} (s:0<(Wb C)) (t:(Wb C)<=1000) (H:HC G J C I e) (g:(Wb e)=19) (all:ae AV):∀(m k a:af) (acc:ae Sk),a+m<=10000->(Wb acc)+m<=1000->
  ∃ds:ae Sk,(Wb ds)=m/\(∀d∈ds,d∈e)/\fp ah all (oN PR (n+60) J "k" (.u (.c "stock") (.f (.c "take") [lI 19])) ((Wb G)+0+17)) (dr k m) (bz C (a:af) T++(G++[.l (acc.map Sk.av)]))=.k () (bz C ((a+m:af):aq) T++(G++[.l ((acc++ds).map Sk.av)])):=by
 intro j;induction j with
 |zero=>exactλk a acc v v=>dS ([]) rfl (λd h=>bJ h bF) (by rw[aJ];rfl)
 |succ m o=>
  intro k a acc p b;refine dp (tD (n:=n+17) (G:=G++[.l (acc.map Sk.av)]) (T:=T) (a:=a) (k:=19) s t #["1?s)rCl?Z8GNEh+?<HJ",p] #["4ce4)v"]) λt1 q=>?_;refine ck (⟨e[qQ C a 19]'#[115,g,q],aR #[115,g,q]⟩:∃d,e[qQ C a 19]?=aa d) λd hd=>?_;have w:du (.l I) (.i ((qQ C a 19:af):aq)) (bz C ((a+1:af):aq) T++(G++[.l (acc.map Sk.av)]))=aa (Sk.av d):=kK (H.at_ _ _ _) (by omega) (by rw[cU,bE,hd];rfl) (by rw[az];exact#["BqvjZ}b~!iZ{lcVu",g]);have y:bg PR (n+60) ⟨[("k",.i (k:af))],J⟩ (.u (.c "stock") (.f (.c "take") [lI 19])) (bz C (a:af) T++(G++[.l (acc.map Sk.av)]))=.k (Sk.av d) (bz C ((a+1:af):aq) T++(G++[.l (acc.map Sk.av)])):=
   eu (gW (H.stock _ _ _ _)) (bU (gW (H.take _ _ _ _)) (aS bL bu) (Bc t1)) w
  have p1:=Eb (J:=C) (I:=((a+1:af):aq)) (T:=T) (G:=G) (k:=0) (X:=[.l (acc.map Sk.av)]) rfl (by rw[az];exact#[34,b]) (Sk.av d);refine cV (o (k+1) (a+1) (acc++[d]) #["RCMY_xV~n*zFQG=ybyvXR",p] (by rw[ar,bj];exact#[33,b])) λds z A r=>?_;refine dS (d::ds) (by rw[aQ,z]) (λx h=>by rcases bw.mp h with rfl|h;exact bG hd;exact A _ h) ?_;rw[aj acc,show a+1+m=a+(m+1)by exact aB #[19] #[20]]at r;show(if dU ah all _=ai then(oN _ _ _ _ _ _ _ _).bind _ else _)=_;rw[aF (show dU ah all _=ai from rfl)];show(R.bind ((bg PR (n+60) _ _ _).bind _) _:R dt)=_;rw[y];show(li _ _ _).bind _=_;rw[p1,show([AO.l (acc.map Sk.av)]:St).set 0 (.l (acc.map Sk.av++[Sk.av d]))=[AO.l ((acc++[d]).map Sk.av)]by rw[dh];rfl];exact r
end
section
variable {B S X G Y Z:St} {v u tv:AV} {vs:ae AV} {l n N p a k U stl dl wd:af} {w r m t:ae af} {σ:St} {ts:ae aq} {fr:AF} {ns:ae aq} {T:ae Row} {I:ae (aC×af)} {J D:ae Sk} {f:Sk->AV} {j:aq}
theorem NI (hd:S[dl]?=aa (.l (D.map Sk.av))) (g:∀d σ,du (Sk.av d) (.i j) σ=aa (f d)):∀(J acc:ae Sk),(Wb acc)+(Wb J)<=1000->
  fp (aa dl) (D.map Sk.av) (oN PR (n+10) I "one" (.u (.v "one") (.l (.i j))) S.length) (J.map Sk.av) (S++[.l (acc.map f)])=.k () (S++[.l ((acc++J).map f)]):=by
 intro a;induction a with|nil=>intro acc _;show(if dU (aa dl) (D.map Sk.av) _=ai then _ else _)=_;rw[aF (fg (fS hd)),aJ]|cons d J b=>intro acc c;rw[aQ]at c;have h:bg PR (n+10) ⟨[("one",Sk.av d)],I⟩ (.u (.v "one") (.l (.i j))) (S++[.l (acc.map f)])=.k (f d) (S++[.l (acc.map f)]):=eu (aO rfl) bL (g d _);show(if dU (aa dl) (D.map Sk.av) _=ai then(R.bind (bg PR (n+10) _ _ _) _:R dt).bind _ else _)=_;rw[aF (fg (fS hd)),h];show(li _ _ _).bind _=_;rw[zU (by rw[az];exact#[34,c])];have e:=b (acc++[d]) (by rw[ar,bj];exact#[33,c]);rw[aj acc,dh]at e;exact e
theorem Lp (hd:S[dl]?=aa (.l (D.map Sk.av))) (b:∀d σ,du (Sk.av d) (.i j) σ=aa (f d)) (a:(Wb D)<=1000) (c:fr.v.lookup "drawn"=aa (.l dl)):bg PR (n+11) fr (.k (.u (.v "one") (.l (.i j))) "one" (.v "drawn") ah) S=.k (.l S.length) (S++[.l (D.map f)]):=
 Fi (aO c) (kF hd (by rw[az];exact#[3,a])) rfl rfl (NI hd b D [] (by rw[cR];exact#["B>A0$M=`,f}YlY^.",a]))
noncomputable def tW (a:ae (ae af)) (c:ae af):bD:=(a.map AV.s).any λv=>dO v (.s c)
variable {C:ae (ae af)}
theorem Pf {c:ae af} (h:S[U]?=aa (.l (C.map .s))) (a:(Wb C)<=1000):dG .In (.s c) (.l U) S=aa (tW C c):=by show(match S[U]? with|some (.d es)=>(if d_ es (.s c)=ai then aa (iX es (.s c)).isSome else ah)|some (.l vs)=>(if l8 vs=ai then aa (vs.any λv=>dO v (.s c))else ah)|_=>ah)=_;rw[h];show(if l8 (C.map AV.s)=ai then aa ((C.map AV.s).any λv=>dO v (.s c))else ah)=_;rw[aF (Bm C)];rfl
noncomputable def yP (C:ae (ae af)) (d:Sk):bD:=!(decide (d.so=[115])&&tW C [83])&&!(decide (d.so=[110])&&tW C [78])
theorem UL {ws:ae (ae af)} {wl:af} (g:S[wl]?=aa (.l (ws.map .s))):∀(us acc:ae (ae af)) (vars:ae (aC×AV)),(Wb acc)+(Wb us)<=100000->vars.lookup "words"=aa (.l S.length)->
  ∃a,eJ (aa wl) (ws.map .s) (λu fr σ=>dw PR (n+20) [.s (.v "words") (.v "word") (lI 1)] {fr with v:=bA "word" u fr.v} σ) (us.map .s) ⟨vars,I⟩ (S++[.d (sD acc)])=.k (.n,⟨a,I⟩) (S++[.d (sD (us.foldl jk acc))])/\(∀x,x≠"word"->a.lookup x=vars.lookup x):=by
 intro b;induction b with
 |nil=>exactλacc vars c c=>aY vars (iY (fg (fS g))) (λc c=>rfl)
 |cons u us e=>
  intro acc vars f m;rw[aQ]at f;have h:(bA "word" (.s u) vars).lookup "words"=aa (.l S.length):=b9 m;have o:l9 S.length (.s u) (.i 1) (S++[.d (sD acc)])=.k () (S++[.d (sD (jk acc u))]):=by rw[HH jf #[17,f],HJ]
  refine ba (e (jk acc u) (bA "word" (.s u) vars) (by have:=zV (C:=acc) (w:=u);exact#[31,f,this]) h) λp g1 g2=>?_;exact aY p (fZ (fg (fS g)) (aT (KG bL (aO h) (aO (bB)) o) (cG)) g1) (λx j=>(g2 x j).trans (a_ j))
noncomputable abbrev Vy:IS:=.i (.o .And [.t (.o .And [.m (.u (.v "one") (lI 2)) .Eq (lS [115]),.m (lS [83]) .In (.v "sorts")]),.t (.o .And [.m (.u (.v "one") (lI 2)) .Eq (lS [110]),.m (lS [78]) .In (.v "sorts")])]) [.f (.v "word") (.u (.v "one") (lI 1)) [.s (.v "words") (.v "word") (lI 1)]] []
noncomputable def mf (C:ae (ae af)) (a:Sk->ae (ae af)):ae Sk->ae (ae af)->ae (ae af)
 |[],acc=>acc
 |d::J,acc=>mf C a J (if yP C d=ai then(a d).foldl jk acc else acc)
theorem Q4 {d:Sk} {vars:ae (aC×AV)} (a:S[U]?=aa (.l (C.map .s))) (b:(Wb C)<=1000) (f:vars.lookup "one"=aa (Sk.av d)) (g:vars.lookup "sorts"=aa (.l U)):
  er PR (n+20) ⟨vars,I⟩ (.o .And [.t (.o .And [.m (.u (.v "one") (lI 2)) .Eq (lS [115]),.m (lS [83]) .In (.v "sorts")]),.t (.o .And [.m (.u (.v "one") (lI 2)) .Eq (lS [110]),.m (lS [78]) .In (.v "sorts")])]) S=.k (yP C d) S:=by
 have A:∀(m:af) (c e:ae af),er PR (m+10) ⟨vars,I⟩ (.t (.o .And [.m (.u (.v "one") (lI 2)) .Eq (.l (.s c)),.m (.l (.s e)) .In (.v "sorts")])) S=.k (!(decide (d.so=c)&&tW C e)) S:=λm c e=>by have h:er PR (m+7) ⟨vars,I⟩ (.m (.u (.v "one") (lI 2)) .Eq (.l (.s c))) S=.k (decide (d.so=c)) S:=ef (eu (aO f) bL rfl) bL rfl;have i:er PR (m+6) ⟨vars,I⟩ (.m (.l (.s e)) .In (.v "sorts")) S=.k (tW C e) S:=ef bL (aO g) (Pf a b);refine IM (u_ (lu h ?_));induction decide (d.so=c)using b_ with|false=>rfl|true=>refine lu i ?_;cases tW C e<;>rfl
 refine u_ (lu (A (n+8) _ _) ?_);unfold yP;induction !(decide (d.so=[115])&&tW C [83])using b_ with|false=>rfl|true=>refine lu (A (n+7) _ _) ?_;cases !(decide (d.so=[110])&&tW C [78])<;>rfl
theorem Tz {e:Sk->ae (ae af)} (hd:S[dl]?=aa (.l (D.map Sk.av))) (B:S[U]?=aa (.l (C.map .s))) (p:(Wb C)<=1000) (E:∀d∈D,S[d.wl]?=aa (.l ((e d).map .s))/\(e d).length<=100):∀(J:ae Sk) (acc:ae (ae af)) (vars:ae (aC×AV)),(∀d∈J,d∈D)->(Wb acc)+100*(Wb J)<=10000->vars.lookup "words"=aa (.l S.length)->vars.lookup "sorts"=aa (.l U)->
  ∃a,eJ (aa dl) (D.map Sk.av) (λu fr σ=>dw PR (n+40) [Vy] {fr with v:=bA "one" u fr.v} σ) (J.map Sk.av) ⟨vars,I⟩ (S++[.d (sD acc)])=.k (.n,⟨a,I⟩) (S++[.d (sD (mf C e J acc))])/\(∀x,x≠"word"->x≠"one"->a.lookup x=vars.lookup x):=by
 intro q;induction q with
 |nil=>exactλacc vars f f f f=>aY vars (iY (fg (fS hd))) (λf f f=>rfl)
 |cons d J g=>intro acc vars r j F G;rw[aQ]at j;refine dp (E d (r d aH)) λA t=>?_;have g1:(bA "one" (Sk.av d) vars).lookup "words"=aa (.l S.length):=b9 F;have g2:(bA "one" (Sk.av d) vars).lookup "sorts"=aa (.l U):=b9 G;have m:=Q4 (S:=S++[.d (sD acc)]) (n:=n+18) (I:=I) (fS B) p bB g2;unfold mf;cases hk:yP C d with|true=>rw[hk]at m;rw[aF rfl];refine ba (UL (n:=n+16) (I:=I) A (e d) acc (bA "one" (Sk.av d) vars) #["c08DEY(!0%8uw~$End7=2'F50h)E|y",j,t] g1) λv1 H b=>?_;have w:=wS (e d) acc;refine ba (g ((e d).foldl jk acc) v1 (λd h=>r d (aK _ h)) #["1a}4o;fHk7YS=+,E2%xf(CaV4A54t{uM+k>eDI",j,t,w] ((b _ #[0]).trans g1) ((b _ #[0]).trans g2)) λy z c=>?_;refine aY y (fZ (fg (fS hd)) (aT (dB m (nG (aT (gI (eu (aO (bB)) bL rfl) (kF (fS A) (by rw[az];exact#[76,t])) H) cG))) cG) z) (λx o i=>(c x o i).trans ((b x o).trans (a_ i)))|false=>rw[hk]at m;rw[aG #[0]];refine ba (g acc (bA "one" (Sk.av d) vars) (λd h=>r d (aK _ h)) #["i%ESYC`X8B_wF1$vr$xwHXBs",j] g1 g2) λy z c=>?_;exact aY y (fZ (fg (fS hd)) (aT (dB m (ix (cG))) cG) z) (λx o i=>(c x o i).trans (a_ i))
end
section
variable {B S X G Y Z:St} {v u tv:AV} {vs:ae AV} {l n N p a k sl J dl wd:af} {w r m t:ae af} {σ:St} {ts:ae aq} {fr:AF} {I:ae aq} {T:ae Row} {U:ae (aC×af)} {C D SK:ae Sk} {f:Sk->AV} {j:aq} {R:Sk->ae (ae af)}
noncomputable def nq (R:Sk->ae (ae af)) (C:ae Sk):ae (ae af):=if tW (C.map Sk.so) [65]=ai then[[65]]else fF gj (mf (C.map Sk.so) R C [])
theorem jH {b:aq}:(bz I b T++Z).length=Z.length+17:=by rw[ar];show 17+_=_;exact aB #["42&{3_,h;y3*e"] #["A.koV^0PN=xe"]
theorem GS {so:ae (ae af)} (h:∀d∈C,(R d).length<=100):∀acc,(mf so R C acc).length<=(Wb acc)+100*(Wb C):=by
 induction C with
 |nil=>exactλacc=>bf _
 |cons d C a=>
  intro acc;have:=a (λd h'=>h d (aK _ h')) (if yP so d=ai then(R d).foldl jk acc else acc);have b:=h d aH;have c:=wS (R d) acc;unfold mf;rw[aQ];by_cases hk:yP so d=ai
  ·rw[aF hk]at this⊢;exact#["^9nwJ*GEPUsOIjez^7pFg^BqBpG5vr0",this,b,c]
  ·rw[aG hk]at this⊢;exact#["S(jO0L7GbKAr|mLB(%",this]
theorem NJ (hL:0<(Wb I)) (hl:(Wb I)<=1000) (ha:a<=9000) (hS:(Wb SK)=19) (Wd:∀(a:aq) T X,(bz I a T++(G++X))[J]?=aa (.l (SK.map Sk.av)))
  (hw:∀d∈SK,(∀(a:aq) T X,(bz I a T++(G++X))[d.wl]?=aa (.l ((R d).map .s)))/\(R d).length<=100) (hU:∀C:ae Sk,C≠[]->(Wb C)<=2->(∀d∈C,d∈SK)->oP T (C.map Sk.ty)):
  ∃(C:ae Sk) (a':af) (X:St) (p:af),C≠[]/\(Wb C)<=2/\(∀d∈C,d∈SK)/\a'<=a+3/\cg PR (n+200) "_law_hole" [] [.l 6,tk,.l J] (bz I (a:af) T++G)=.k (.t [.i (cH T (C.map Sk.ty)).1,.l (p+17)]) (bz I (a':af) (cH T (C.map Sk.ty)).2++(G++X))/\(G++X)[p]?=aa (.l ((nq R C).map .s))/\(Wb G)<=p:=by
 refine dp (tD (n:=n+151) (G:=G++[.c (aa tk),.c (aa (.l J))]) (T:=T) (a:=a) (k:=2) hL hl #["1D;ounv%!c;Iu)3n",ha] #["BT`pJ"]) λt1 y=>?_;generalize qQ I a 2=d at t1 y;have m0:j8 ["take","stock"] [("tab",.l 6),("take",tk),("stock",.l J)] (bz I a T++G)=([("take",(Wb G)+17),("stock",(Wb G)+1+17)],bz I a T++(G++[.c (aa tk),.c (aa (.l J))])):=by show(([("take",(bz I a T++G).length),("stock",(bz I a T++G++[AO.c (aa tk)]).length)]:ae (aC×af)),bz I (a:af) T++G++[AO.c (aa tk)]++[AO.c (aa (.l J))])=_;rw[aj,aj,aj,jH,jH,ar];rfl
 have H:HC (G++[.c (aa tk),.c (aa (.l J))]) [("take",(Wb G)+17),("stock",(Wb G)+1+17)] I J SK:={
  take:=λb T X vars=>by
   have hq:(bz I b T++(G++[.c (aa tk),.c (aa (.l J))]++X))[(Wb G)+0+17]?=aa (.c (aa tk)):=by rw[aj G];exact gk 0
   show(match(bz I b T++(G++[.c (aa tk),.c (aa (.l J))]++X))[(Wb G)+0+17]? with|some (.c v)=>v|_=>ah)=_;rw[hq]
  stock:=λb T X vars=>by
   have hq:(bz I b T++(G++[.c (aa tk),.c (aa (.l J))]++X))[(Wb G)+1+17]?=aa (.c (aa (.l J))):=by rw[aj G];exact gk 1
   show(match(bz I b T++(G++[.c (aa tk),.c (aa (.l J))]++X))[(Wb G)+1+17]? with|some (.c v)=>v|_=>ah)=_;rw[hq]
  at_:=λb T X=>by rw[aj G];exact Wd _ _ _}
 generalize hZ:G++[AO.c (aa tk),AO.c (aa (.l J))]=Z at t1 m0 H;generalize Wf:[("take",(Wb G)+17),("stock",(Wb G)+1+17)]=U at m0 H;refine cV (Q3 (n:=n+136) (T:=T) hL hl H hS (dr 0 (1+d)) (1+d) 0 (a+1) [] #["1YL`lX?8,R!3(BPvP!s).Oq>",ha,y] (by rw[cR];exact#["2w^pgMsv{1CUwU",y])) λC q1 q2 q3=>?_;rw[eF,nW]at q3;have E:C≠[]:=λh=>by rw[h,cR]at q1;exact#["3|Vk;s",q1]
 have c1:kq "range" [.i (1+(d:af))] (bz I ((a+1:af):aq) T++Z)=.k (.r 0 (1+(d:af))) (bz I ((a+1:af):aq) T++Z):=mE (by rw[show(1:aq)+d=((1+d):aq)by omega];exact c_ #["2rZ4aq_F.NUW)h",y]);have c2:items (.r 0 (1+d)) (bz I ((a+1):aq) T++Z)=aa (dr 0 (1+d),ah):=by rw[show 1+d=((1+d):aq)from rfl,kE rfl (c_ (by omega)) (by omega),nJ]
 have g0:j9 ⟨[("tab",.l 6)],U⟩ "take" (bz I a T++Z)=aa tk:=by have:=H.take a T [] [("tab",.l 6)];rwa [aJ]at this
 have s1:cS PR (n+198) (.a "drawn" (.k (.u (.c "stock") (.f (.c "take") [lI 19])) "k" (.f (.g "range") [.b .Add (lI 1) (.f (.c "take") [lI 2])]) ah)) ⟨[("tab",.l 6)],U⟩ (bz I a T++Z)=.k (.n,⟨[("tab",.l 6),("drawn",.l (Z.length+0+17))],U⟩) (bz I ((a+1+(1+d):af):aq) T++(Z++[.l (C.map Sk.av)])):=
  dQ (Fi (bU (cC mV) (aS (fX bL (bU (gW g0) (aS bL bu) (Bc t1)) rfl) bu) (nF c1)) c2 jH (aj _ _ _) q3)
 have F:a+1+(1+d)<=a+3:=#["Jc1{'};CVg0`V3^",y]
 generalize a+1+(1+d)=o at s1 q3 F;have x:=hU C E #[154,y,q1] q2;generalize K:Z++[AO.l (C.map Sk.av)]=Z2 at s1;have d2:(bz I (o:af) T++Z2)[Z.length+17]?=aa (.l (C.map Sk.av)):=by rw[<-K];exact gk 0
 have e2:=Lp (n:=n+182) (fr:=⟨[("tab",.l 6),("drawn",.l (Z.length+17))],U⟩) (j:=0) (f:=λd=>.i d.ty) d2 (λd σ=>rfl) #[136,y,q1] rfl;rw[jH,aj,show C.map (λd=>AV.i d.ty)=(C.map Sk.ty).map .i by rw[iA];rfl]at e2;refine ck (zQ (n:=n+94) (I:=I) (C:=(o:af)) (p:=(Wb Z2)) jf x.ids x.parts x.len x.ten x.flat x.num x.kept) λX1 u1=>?_;have L:=dQ (P:=PR) (s:="t") (bU (cC Cw) (aS (aO (s:="tab") rfl) (aS e2 bu)) (jX u1))
 suffices hm:∃(X:St) (p:af),cg PR (n+200) "_law_hole" [] [.l 6,tk,.l J] (bz I (a:af) T++G)=.k (.t [.i (cH T (C.map Sk.ty)).1,.l (p+17)]) (bz I o (cH T (C.map Sk.ty)).2++(G++X))/\(G++X)[p]?=aa (.l ((nq R C).map .s))/\(Wb G)<=p by refine d9 hm ?_;clear hm;intro X p h1 h2;exact⟨C,o,X,p,E,#[154,y,q1],q2,F,h1,h2⟩
 generalize(cH T (C.map Sk.ty)).2=w at L⊢;generalize(cH T (C.map Sk.ty)).1=t0 at L⊢;generalize We:Z2++[AO.l ((C.map Sk.ty).map .i)]++X1=z at L;have z4:z=Z++(.l (C.map Sk.av)::.l ((C.map Sk.ty).map .i)::X1):=by rw[<-We,<-K,aj,aj];rfl
 have d4:(bz I o w++z)[Z.length+17]?=aa (.l (C.map Sk.av)):=by rw[z4];exact gk 0
 have e3:=Lp (n:=n+184) (fr:=⟨[("tab",.l 6),("drawn",.l (Z.length+17)),("t",.i t0)],U⟩) (j:=2) (f:=λd=>.s d.so) d4 (λd σ=>rfl) #[136,y,q1] rfl;rw[jH,aj,show C.map (λd=>AV.s d.so)=(C.map Sk.so).map .s by rw[iA];rfl]at e3;have s3:=dQ (P:=PR) (s:="sorts") e3;generalize B:z++[AO.l ((C.map Sk.so).map .s)]=q at s3;have d5:(bz I (o:af) w++q)[(Wb z)+17]?=aa (.l ((C.map Sk.so).map .s)):=by rw[<-B];exact gk 0
 have M:(bz I (o:af) w++q)[Z.length+17]?=aa (.l (C.map Sk.av)):=by rw[<-B,z4,aj];exact gk 0
 refine ck (⟨_,by rw[<-B,z4,<-hZ,aj,aj]⟩:∃N,q=G++N) λN D=>?_;have A:er PR (n+194) ⟨[("tab",.l 6),("drawn",.l (Z.length+17)),("t",.i t0),("sorts",.l ((Wb z)+17))],U⟩ (.m (lS [65]) .In (.v "sorts")) (bz I (o:af) w++q)=.k (tW (C.map Sk.so) [65]) (bz I (o:af) w++q):=ef bL (aO rfl) (Pf d5 (by rw[az];exact#[137,y,q1]));unfold nq;by_cases O:tW (C.map Sk.so) [65]=ai
 ·rw[O]at A;rw[aF O];refine fD (N++[.l [.s [65]]]) (Wb q) ?_ (by rw[<-aj,<-D];exact jf) (by rw[D,ar];exact#[64]);rw[<-aj G,<-D];have e6:bg PR (n+190) ⟨[("tab",.l 6),("drawn",.l (Z.length+17)),("t",.i t0),("sorts",.l ((Wb z)+17))],U⟩ (.s [lS [65]]) (bz I (o:af) w++q)=.k (.l (bz I (o:af) w++q).length) (bz I (o:af) w++q++[.l [.s [65]]]):=jQ (aS bL bu) rfl;rw[jH,aj]at e6;refine mU (fl:=.r (.t [.i t0,.l ((Wb q)+17)])) (I:=⟨[("tab",.l 6),("drawn",.l (Z.length+17)),("t",.i t0),("sorts",.l ((Wb z)+17))],U⟩) Bl rfl rfl m0 ?_ rfl;rw[aJ];exact aT s1 (aT L (aT s3 (cY (dB A (nG (cY (fi (sQ (aS (aO rfl) (aS e6 bu)) rfl))))))))
 ·rw[Bool.not_eq_true]at O;rw[O]at A;rw[aG (by rw[O];decide)];have Wg:(bz I (o:af) w++q).length=(Wb q)+17:=jH;have Q:∀d∈C,(bz I (o:af) w++q)[d.wl]?=aa (.l ((R d).map .s))/\(R d).length<=100:=λd hd=>⟨by rw[D];exact(hw d (q2 d hd)).1 _ _ _,(hw d (q2 d hd)).2⟩
  have V:=GS (so:=C.map Sk.so) (λd hd=>(Q d hd).2) [];rw[cR]at V;refine ba (Tz (n:=n+152) (I:=U) M d5 (by rw[az];exact#[137,y,q1]) Q C [] [("tab",.l 6),("drawn",.l (Z.length+17)),("t",.i t0),("sorts",.l ((Wb z)+17)),("words",.l (bz I (o:af) w++q).length)] (λu0 h=>h) (by rw[cR];exact#[".`R=u1:P8G~$$q{QzS7Y",y,q1]) rfl rfl) λv6 e6 W=>?_;have d6:items (.l (Z.length+17)) (bz I (o:af) w++q++[.d (sD [])])=aa (C.map Sk.av,aa (Z.length+17)):=kF (fS M) (by rw[az];exact#["1qNA})bchu>Rkjwydw",y,q1]);have s6:=gI (P:=PR) (e:=.v "drawn") (aO rfl) d6 e6;have s5:=dQ (P:=PR) (n:=n+193) (s:="words") (I:=⟨[("tab",.l 6),("drawn",.l (Z.length+17)),("t",.i t0),("sorts",.l ((Wb z)+17))],U⟩) (Fp (σ:=bz I (o:af) w++q) rfl rfl);have c7:=Dl (S:=bz I (o:af) w++q++[.d (sD (mf (C.map Sk.so) R C []))]) jf #["q2Y&&!KU>^aH;p)ty:2SI:f_h",y,q1,V];generalize hd:AO.d (sD (mf (C.map Sk.so) R C []))=dd at c7 s6;have Y:bz I (o:af) w++q++[dd]++[.l ((fF gj (mf (C.map Sk.so) R C [])).map .s)]=bz I (o:af) w++(G++(N++[dd]++[.l ((fF gj (mf (C.map Sk.so) R C [])).map .s)])):=by rw[D,aj,aj,aj,aj]
  have Wc:(bz I (o:af) w++q++[dd]).length=(q++[dd]).length+17:=by rw[aj,jH]
  refine fD (N++[dd]++[.l ((fF gj (mf (C.map Sk.so) R C [])).map .s)]) ((q++[dd]).length) ?_ (by rw[<-aj,<-aj,<-D];exact jf) (by rw[D,ar,ar];exact#["24x2=d_g"]);rw[<-Wc,<-Y];refine mU (fl:=.r (.t [.i t0,.l (bz I (o:af) w++q++[dd]).length])) (I:=⟨v6,U⟩) (bs:=[("tab",.l 6),("take",tk),("stock",.l J)]) Bl rfl rfl m0 ?_ rfl;rw[aJ];have i4:cS PR (n+195) (.i (.m (lS [65]) .In (.v "sorts")) [.r (.p [.v "t",.s [lS [65]]])] []) ⟨[("tab",.l 6),("drawn",.l (Z.length+17)),("t",.i t0),("sorts",.l ((Wb z)+17))],U⟩ (bz I (o:af) w++q)=.k (.n,⟨[("tab",.l 6),("drawn",.l (Z.length+17)),("t",.i t0),("sorts",.l ((Wb z)+17))],U⟩) (bz I (o:af) w++q):=dB (r:=aD) A (ix (cG));exact aT s1 (aT L (aT s3 (aT i4 (aT s5 (aT s6 (cY (fi (sQ (aS (aO ((W "t" #[0] #[0]).trans rfl)) (aS (bU (cC zO) (aS (aO ((W "words" #[0] #[0]).trans rfl)) bu) (gM c7)) bu)) rfl))))))))
end
end
section
open PySem PyProof.Rows
noncomputable def R0:ae Row:=[.k [97,110,121],.k [117,110,107,110,111,119,110],.k [110,101,118,101,114],.k [118,111,105,100],.k [117,110,100,101,102,105,110,101,100],.k [110,117,108,108],.k [115,116,114,105,110,103],.k [110,117,109,98,101,114],
 .b 0 0,.b 1 0,.k [111,98,106,101,99,116],.o,.u [8,9],.k [101,114,114,111,114],.b 0 1,.b 1 1,.p 0,.s [97] 1,.s [] 0,.s [98,49] 0,.n 0 0,.n (-7) 1,.e 0,.x 1,.y 16,.t [[97],[98]] [6],.t [[],[],[]] [7,16]]
noncomputable def Dn:ae Sk:=[⟨17,17,[115]⟩,⟨18,18,[115]⟩,⟨19,19,[115]⟩,⟨20,20,[110]⟩,⟨21,21,[110]⟩,⟨9,22,[]⟩,⟨12,23,[]⟩,⟨5,24,[]⟩,⟨4,25,[]⟩,⟨22,26,[110]⟩,⟨23,27,[115]⟩,⟨6,28,[83]⟩,⟨7,29,[78]⟩,⟨0,30,[65]⟩,⟨16,31,[]⟩,⟨24,32,[]⟩,⟨25,33,[115]⟩,⟨26,34,[115]⟩,⟨2,35,[]⟩]
noncomputable def Lq:ae (ae (ae af)):=[[[97]],[[]],[[98,49]],[[48]],[[45,55]],[[116,114,117,101]],[[102,97,108,115,101],[116,114,117,101]],[[110,117,108,108]],[[117,110,100,101,102,105,110,101,100]],[[51]],[[120]],[[83]],[[78]],[[65]],[[80]],[[75]],[[97,83,98]],[[78,80]],[]]
noncomputable def uL (d:Sk):ae (ae af):=(Lq[d.wl-17]?).getD []
noncomputable def nt:ae (aq×ae af):=[(6,[83]),(7,[78]),(0,[65]),(16,[80]),(24,[75])]
noncomputable def G0:St:=Lq.map (λws=>.l (ws.map .s))++[.l (Dn.map Sk.av),.d (uJ nt)]
noncomputable abbrev p5:ae (aC×AV):=[("take",tk),("host",.l 16),("stock",.l 36),("signs",.l 37)]
noncomputable abbrev dP:ae (aC×af):=[("tab",4),("nums",2),("at",3)]
end
section
open PySem
section
variable {X G Y Z:St} {v u tv:AV} {vs:ae AV} {n N p a k sl stl dl wd:af} {w r m t:ae af} {σ:St} {J:ae aq} {fr:AF} {ns:ae aq} {T:ae Row} {ds:ae Sk} {I:ae (ae af)} {U:ae af}
noncomputable abbrev GL (I:ae (ae af)) (J:ae aq) (U:ae af) (Y:St):St:=G0++(.l (gf.map .s)::.l (I.map .s)::.l (J.map .i)::.l (U.map .l)::Y)
structure LV (vars:ae (aC×AV)):Prop where
 take:vars.lookup "take"=aa tk
 stock:vars.lookup "stock"=aa (.l 36)
 host:vars.lookup "host"=aa (.l 16)
 signs:vars.lookup "signs"=aa (.l 37)
 texts:vars.lookup "texts"=aa (.l 39)
 types:vars.lookup "types"=aa (.l 40)
 holes:vars.lookup "holes"=aa (.l 41)
variable {b:aq} {C:ae (aC×AV)}
theorem LV.upd (h:LV C) (x:aC) (u:AV) (a:"take"≠x) (b:"stock"≠x) (c:"host"≠x) (d:"signs"≠x) (e:"texts"≠x) (f:"types"≠x) (g:"holes"≠x):LV (bA x u C):=
 ⟨(a_ a).trans h.take,(a_ b).trans h.stock,(a_ c).trans h.host,(a_ d).trans h.signs,(a_ e).trans h.texts,(a_ f).trans h.types,(a_ g).trans h.holes⟩
theorem Lr:G0.length=21:=rfl
theorem FJ {o:St} {vs:ae AV} {l:af} (a:o[l]?=aa (.l vs)) (h:(Wb vs)<=1000000):jg "list.append" (.l l) [v] o=.k .n (o.set l (.l (vs++[v]))):=by show(match o[l]? with|some (.l vs)=>if bV vs=ai then R.k () (o.set l (.l (vs++[v])))else .b|_=>.b).bind _=_;rw[a];show(if bV vs=ai then R.k () (o.set l (.l (vs++[v])))else .b).bind _=_;rw[aF (jP h)];rfl
theorem Do {z:aq} (h:(Wb J)<=1000):jg "list.append" (.l 40) [.i z] (bz ns b T++GL I J U Y)=.k .n (bz ns b T++GL I (J++[z]) U Y):=by rw[FJ (vs:=J.map .i) rfl (by rw[az];exact#[3,h]),show J.map AV.i++[.i z]=(J++[z]).map AV.i by rw[dh];rfl];rfl
theorem Dp {z:af} (h:(Wb U)<=1000):jg "list.append" (.l 41) [.l z] (bz ns b T++GL I J U Y)=.k .n (bz ns b T++GL I J (U++[z]) Y):=by rw[FJ (vs:=U.map .l) rfl (by rw[az];exact#[3,h]),show U.map AV.l++[.l z]=(U++[z]).map AV.l by rw[dh];rfl];rfl
theorem Dq {z:ae af} (h:(Wb I)<=1000):jg "list.append" (.l 39) [.s z] (bz ns b T++GL I J U Y)=.k .n (bz ns b T++GL (I++[z]) J U Y):=by rw[FJ (vs:=I.map .s) rfl (by rw[az];exact#[3,h]),show I.map AV.s++[.s z]=(I++[z]).map AV.s by rw[dh];rfl];rfl
noncomputable def p6:ae Row->ae (ae Sk)->ae aq×ae Row
 |T,[]=>([],T)
 |T,ds::r=>((cH T (ds.map Sk.ty)).1::(p6 (cH T (ds.map Sk.ty)).2 r).1,(p6 (cH T (ds.map Sk.ty)).2 r).2)
def x6 (ds:ae Sk):Prop:=ds≠[]/\(Wb ds)<=2/\∀d∈ds,d∈Dn
noncomputable abbrev FK:ae IS:=[.t ["t","words"] (.f (.g "_law_hole") [.c "tab",.v "take",.v "stock"]),
 .e (.h (.v "types") "append" [.v "t"]),
 .e (.h (.v "holes") "append" [.v "words"]),
 .e (.h (.v "texts") "append" [.u (.f (.g "_law_texts") []) (.f (.v "take") [lI 7])])]
theorem Q5:Dn.length=19:=rfl
theorem TA (b:aq) (T:ae Row) (X:St):(bz ns b T++(GL I J U Y++X))[36]?=aa (.l (Dn.map Sk.av)):=rfl
theorem CG {α:Type} {p:α->Prop} {a:α} {l:ae α} (h:p a) (k:∀d∈l,p d):∀d∈a::l,p d:=cv.mpr ⟨h,k⟩
theorem Ls:∀d∈Dn,(∀(b:aq) (T:ae Row) (I:ae (ae af)) (J:ae aq) (U:ae af) (Y X:St),(bz ns b T++(GL I J U Y++X))[d.wl]?=aa (.l ((uL d).map .s)))/\(uL d).length<=100:=by
 repeat(refine CG ⟨λa a a a a a a=>rfl,by decide⟩ ?_)
 exactλd hd=>bJ hd bF
theorem mQ:GL I J U Y++X=GL I J U (Y++X):=aj _ _ _
theorem Pg (p:af):(GL I J U Y)[p+25]?=Y[p]?:=by rw[show p+25=G0.length+(p+4)by rw[Lr];exact aB #["14vj%)UapdiRoii+a{"] #["*~*JA)3:=<9QP="]];exact Bz (p+4)
theorem Lu:(GL I J U Y).length=(Wb Y)+25:=by rw[ar,Lr];exact aB #["F}0=J`TBJEChB$hO90?"] #["ICxhvqD,>yBHNu7:&k9E$e"]
theorem Q6 (K:0<(Wb ns)) (M:(Wb ns)<=1000) (N:a<=8000) (F:LV C) (r:(Wb J)<=100) (w:(Wb U)<=100) (y:(Wb I)<=100) (V:∀ds,x6 ds->oP T (ds.map Sk.ty)):
  ∃(ds:ae Sk) (O:af) (X:St) (p:af) (x:ae af) (e:ae (aC×AV)),x6 ds/\O<=a+4/\x∈gf/\LV e/\
   dw PR (n+210) FK ⟨C,dP⟩ (bz ns (a:af) T++GL I J U Y)=.k (.n,⟨e,dP⟩) (bz ns (O:af) (cH T (ds.map Sk.ty)).2++GL (I++[x]) (J++[(cH T (ds.map Sk.ty)).1]) (U++[p+42]) (Y++X))/\(Y++X)[p]?=aa (.l ((nq uL ds).map .s)):=by
 obtain⟨ds,A,X,q,W,Z,d3,P,B,D,E⟩:=NJ (n:=n+6) (T:=T) (a:=a) (SK:=Dn) (J:=36) (R:=uL) (G:=GL I J U Y) K M #["8~0,V!i,NgFzOoE",N] Q5 (λb T X=>TA b T X) (λd hd=>⟨λb T X=>(Ls d hd).1 b T I J U Y X,(Ls (ns:=ns) d hd).2⟩) (λds m o h3=>V ds (dy m o h3));rw[Lu]at E;refine ck (⟨q-25,aB #["3qB&={US;du=Nq.B'",d8 _ _] #["K6TE>X4'}xP0WLI66(w",ag #["*~!2qF%(Z!br4W",E]]⟩:∃p,q=p+25) λp H=>?_;clear E;obtain rfl:=H;rw[mQ]at B D;rw[Pg]at D;generalize hu:cH T (ds.map Sk.ty)=u at B;have Q:cS PR (n+209) (.t ["t","words"] (.f (.g "_law_hole") [.c "tab",.v "take",.v "stock"])) ⟨C,dP⟩ (bz ns (a:af) T++GL I J U Y)=.k (.n,⟨bA "words" (.l (p+42)) (bA "t" (.i u.1) C),dP⟩) (bz ns (A:af) u.2++GL I J U (Y++X)):=
  S6 (us:=[.i u.1,.l (p+42)]) (xs:=["t","words"]) (I:=⟨C,dP⟩) (bU (cC IY) (aS (gW rfl) (aS (aO F.take) (aS (aO F.stock) bu))) (jX B)) rfl
 have j:=(F.upd "t" (.i u.1) #[0] #[0] #[0] #[0] #[0] #[0] #[0]).upd "words" (.l (p+42)) #[0] #[0] #[0] #[0] #[0] #[0] #[0];have m:(bA "words" (.l (p+42)) (bA "t" (.i u.1) C)).lookup "t"=aa (.i u.1):=b9 (bB);have o:(bA "words" (.l (p+42)) (bA "t" (.i u.1) C)).lookup "words"=aa (.l (p+42)):=bB;generalize bA "words" (.l (p+42)) (bA "t" (.i u.1) C)=h at Q j m o;refine ba (vO (n:=n+153) (G:=GL I (J++[u.1]) (U++[p+42]) (Y++X)) (T:=u.2) (J:=⟨h,dP⟩) (L:=gf) (z:=7) (a:=A) K M #["8fapN3<D(}&qjfm')tCwG",N,P] #[0] rfl #[0] vc (λu0 u0=>zT) j.take) λx hx S=>?_;rw[mQ]at S;refine⟨ds,A+1,X++[.l (gf.map .s)],p,x,h,dy W Z d3,#["1!3*L,SYQ62*,+",P],hx,j,?_,by rw[<-aj];exact fS D⟩;rw[hu,<-aj Y];refine aT Q (aT (mC (mD (aO j.types) rfl (aS (aO m) bu) (Do #[53,r]))) (aT (mC (mD (aO j.holes) rfl (aS (aO o) bu) (Dp #[53,w]))) (aT (mC (mD (aO j.texts) rfl (aS S bu) (Dq #[53,y]))) cG)))
end
section
variable {X G Y Z:St} {v u tv:AV} {vs:ae AV} {n N p a k sl stl dl wd:af} {w r m t:ae af} {σ:St} {U:ae aq} {fr:AF} {ns:ae aq} {T:ae Row} {C:ae Sk} {xs:ae (ae af)} {I:ae af}
def Q7 (Y:St) (I:ae af) (a:ae (ae Sk)):Prop:=∀i q:af,I[i]?=aa q->∃(p:af) (C:ae Sk),q=p+42/\a[i]?=aa C/\Y[p]?=aa (.l ((nq uL C).map .s))
theorem Q8 {Tab:af->ae Row->Prop} {J:af} (D:∀j T,j<J->Tab j T->∀C,x6 C->oP T (C.map Sk.ty)/\Tab (j+1) (cH T (C.map Sk.ty)).2) (M:0<(Wb ns)) (N:(Wb ns)<=1000) (all:ae AV):∀(m k j a:af) (T:ae Row) (xs:ae (ae af)) (U:ae aq) (I:ae af) (Y:St) (vars:ae (aC×AV)),Tab j T->j+m<=J->a+4*m<=8000->LV vars->(Wb U)+m<=100->(Wb I)+m<=100->(Wb xs)+m<=100->
  ∃(b:ae (ae Sk)) (E:af) (X:St) (e:ae (ae af)) (f:ae af) (g:ae (aC×AV)),(Wb b)=m/\(∀C∈b,x6 C)/\(Wb e)=m/\(∀x∈e,x∈gf)/\(Wb f)=m/\E<=a+4*m/\LV g/\Tab (j+m) (p6 T b).2/\
   eJ ah all (λu fr σ=>dw PR (n+210) FK {fr with v:=bA "k" u fr.v} σ) (dr k m) ⟨vars,dP⟩ (bz ns (a:af) T++GL xs U I Y)=.k (.n,⟨g,dP⟩) (bz ns (E:af) (p6 T b).2++GL (xs++e) (U++(p6 T b).1) (I++f) (Y++X))/\Q7 (Y++X) f b:=by
 intro o;induction o with
 |zero=>exactλk j a T xs U I Y vars c l r F s t w=>⟨[],a,[],[],[],vars,rfl,(λC h=>bJ h bF),rfl,(λx h=>bJ h bF),rfl,#["61>li'1Tm"],F,c,by rw[aJ,aJ,aJ];show _=R.k (Fl.n,_) (bz _ _ T++GL xs (U++[]) I Y);rw[aJ];exact iY rfl,λi q h=>nomatch h⟩
 |succ m z=>
  intro k j a T xs U I Y vars c l r F s t w;have O:=F.upd "k" (.i (k:af)) #[0] #[0] #[0] #[0] #[0] #[0] #[0];obtain⟨C,P,G,p,x,v1,H,K,Q,S,V,W⟩:=Q6 (n:=n) (a:=a) (T:=T) (I:=xs) (J:=U) (U:=I) (Y:=Y) M N #["wUz&^wAEt3aaEWo};Uh;",r] O #[73,s] #[73,t] #[73,w] (λC A=>(D j T #[184,l] c C A).1);refine sp (z (k+1) (j+1) P (cH T (C.map Sk.ty)).2 (xs++[x]) (U++[(cH T (C.map Sk.ty)).1]) (I++[p+42]) (Y++G) v1 (D j T #[184,l] c C H).2 #["288:7{sv*6coS'w",l] #["33dy(!+&C?v>Z4+GN0*xJwu}).T'<q",r,K] S (by rw[ar,bj];exact#[23,s]) (by rw[ar,bj];exact#[23,t]) (by rw[ar,bj];exact#[23,w])) λb Z X2 e f v2 q1 q2 q3 q4 q5 q6 F2 q7 L w2=>?_;refine⟨C::b,Z,G++X2,x::e,(p+42)::f,v2,by rw[aQ,q1],λd h=>by rcases bw.mp h with rfl|h;exact H;exact q2 d h,by rw[aQ,q3],λy h=>by rcases bw.mp h with rfl|h;exact Q;exact q4 y h,by rw[aQ,q5],#["2cL1aM'QeLlCz>Dn(cIeogc=",K,q6],F2,by rw[show j+(m+1)=j+1+m by exact aB #[20] #[19]];exact q7,?_,?_⟩
  ·rw[aj xs,aj U,aj I,aj Y]at L;exact fZ rfl V L
  ·intro i q h
   match i,h with|0,h=>exact fD p C ((aw h).symm) rfl (by rw[<-aj];exact fS W)|i+1,h=>refine eV (w2 i q h) λp' B r1 r2 r3=>?_;exact fD p' B r1 r2 (by rw[<-aj];exact r3)
end
section
variable {B X G Y Z:St} {v u U:AV} {vs:ae AV} {n N p a k sl stl dl wd:af} {w r m t:ae af} {J:St} {R:ae aq} {fr:AF} {I:ae aq} {T:ae Row} {ds:ae Sk} {C:ae (ae af)} {ls:ae af}
theorem NK:∀r:ae (ae af),iW (r.map .s) (r.map .s)=ai:=by intro a;induction a with|nil=>exact rfl|cons x r b=>show(decide (x=x)&&iW (r.map .s) (r.map .s))=ai;rw[aI rfl,b];rfl
variable {o:au (ae (ae af))}
theorem Ph {v1 b:AV} (c:iC o v1 J) (d:iC o b J):dG .NotEq v1 b J=aa aD:=by induction o using cX with|none=>cases(c:v1=.n);cases(d:b=.n);rfl|some r=>refine ba c ?_;clear c;intro e a f;refine dq a ?_;refine ba d ?_;clear d;intro g a h;obtain rfl:=a;show(match J[e]?,J[g]? with|some (.l C),aa (.l ys)=>if(l8 C&&l8 ys)=ai then aa (!iW C ys)else ah|_,_=>ah)=_;rw[f,h];show(if(l8 (r.map AV.s)&&l8 (r.map AV.s))=ai then aa (!iW (r.map .s) (r.map .s))else ah)=_;rw[Bm,NK];rfl
theorem zW (h:iC o v B) (X:St):iC o v (B++X):=by induction o using cX with|none=>exact h|some r=>refine ba h ?_;clear h;intro l a b;exact aY l a (fS b)
noncomputable abbrev CH:ae IS:=[.a "word" (.f (.g "_law_fill") [.v "some",.v "take"]),
 .i (.m (.f (.g "tpl_match") [.v "host",.v "word",.v "some",.v "kinds"]) .NotEq (.f (.g "_law_want") [.v "word",.v "some",.v "kinds"])) [.r (.l (.b aD))] []]
theorem NL {vars:ae (aC×AV)} (y:0<(Wb I)) (z:(Wb I)<=1000) (A:a<=9000) (F:LV vars) (f1:vars.lookup "some"=aa v) (f2:vars.lookup "kinds"=aa U) (S:∀(b:aq) X,kT (bz I b T++(G++X)) v (C.map .s)) (St:∀(b:aq) X,kT (bz I b T++(G++X)) U (R.map .i))
  (c:(Wb C)=R.length+1) (g:(Wb C)<=8) (m:∀x∈C,(Wb x)<=500) (B:∀w,x4 w C R=Bw tU R (lj C w)):
  ∃d o X,dw PR (n+620) CH ⟨vars,dP⟩ (bz I (a:af) T++(G++Y))=.k (.n,⟨d,dP⟩) (bz I (o:af) T++(G++X))/\LV d/\o<=a+10:=by
 refine lq (QQ (n:=n+516) (a:=a) (Y:=Y) (T:=T) y z S (λh=>by rw[h,cR]at c;exact#["1cM3L7C",c]) #["E5$>~L^RGU",g] m #["9}=}bpB2I!L%D:u",A]) λw e f D p E=>?_;refine d9 (ND (n:=n+513) (w:=w) (S e f) (St e f) c #["Ay:P0Oi1|tf,|hCO",c,g] p (λx h=>by have:=m x h;exact#[138,this])) λL j H q=>?_;refine d9 (QO (n:=n+513-60*(Wb C)) (w:=w) ((S e f).more j) ((St e f).more j) c #["9ior3y6v,wmfd>*;",c,g] p (λx h=>by have:=m x h;exact#[138,this])) λM l t J=>?_;rw[show n+513-60*(Wb C)+60*(Wb C)+100=n+613 by exact aB #["2'z=t|;*PlXlA.VErDIMYg_05>X=m1%",ag #["i8m:=:rw90(q!O",g]] #["d8M~?YMM1)7HXVTdro3Bc%{b80h1:q",d8 _ _]]at t;rw[B w]at q;have K:=Ph (zW q l) J;have u:=F.upd "word" (.s w) #[0] #[0] #[0] #[0] #[0] #[0] #[0];have g1:(bA "word" (.s w) vars).lookup "some"=aa v:=b9 f1;have g2:(bA "word" (.s w) vars).lookup "kinds"=aa U:=b9 f2;refine l7 (bA "word" (.s w) vars) e (f++j++l) ?_ u #["1V~pc?_^^mFpsn5PMs",g,E];rw[show bz I (e:af) T++(G++(f++j++l))=bz I (e:af) T++(G++f)++j++l by simp only[aj]];refine aT (dQ (bU (cC I4) (aS (aO f1) (aS (aO F.take) bu)) (jX D))) (aT (dB (r:=aD) (ef (bU (cC GJ) (aS (aO u.host) (aS (aO (bB)) (aS (aO g1) (aS (aO g2) bu)))) (jX H)) (bU (cC I3) (aS (aO (bB)) (aS (aO g1) (aS (aO g2) bu))) (jX t)) K) (ix (cG (P:=PR) (n:=n+616)))) cG)
end
section
variable {x y r h w:ae af} {C:ae (ae af)} {f g:af->au (ae (ae af))}
noncomputable def cW (x:ae af) (C:ae (ae af)) (r:ae af):au (ae (ae af)):=nM r (λs=>lj (x::C) (r.drop s)) (vN C x r)
theorem zX:lj (h::x::C) w=if w.take (Wb h)≠h then ah else cW x C (w.drop (Wb h)):=rfl
theorem yQ:cW x [] r=if(Wb x)<=(Wb r)/\r.drop ((Wb r)-(Wb x))=x then aa [r.take ((Wb r)-(Wb x))]else ah:=by
 unfold cW vN;rw[aF rfl];unfold nM;by_cases a:(Wb x)<=(Wb r)
 ·rw[aF ⟨by omega,by omega⟩,show(((Wb r))-((Wb x):aq)).toNat=(Wb r)-(Wb x)by omega];show(match(if(r.drop ((Wb r)-(Wb x))).take (Wb x)≠x then ah else if(r.drop ((Wb r)-(Wb x))).drop (Wb x)=[]then aa []else ah)with|some t=>aa (r.take ((Wb r)-(Wb x))::t)|none=>nM r _ [])=_;have hd:(r.drop ((Wb r)-(Wb x))).length=(Wb x):=by rw[cj];exact aB #[144,ag a,ag #[30,ag a]] #[142,ag a,ag #[30,ag a]]
  have d:=gA (iy hd);have e:=cF (iy hd);rw[d,e,aF rfl];by_cases c:r.drop ((Wb r)-(Wb x))=x
  ·rw[aG (λb=>b c),aF ⟨a,c⟩]
  ·rw[aF c,aG (λb=>c b.2)];rfl
 ·rw[aG (by omega),aG (λb=>a b.1)];rfl
theorem BB:cW [] (y::C) r=if r=[]then ah else(cW y C (r.drop 1)).map (r.take 1::·):=by
 have c:cW [] (y::C) r=nM r (λs=>lj ([]::y::C) (r.drop s)) [1]:=rfl;rw[c];generalize a:cW y C (r.drop 1)=g;unfold nM;by_cases b:r=[]
 ·clear c a;refine dq b ?_;rw[aF rfl];rfl
 ·have e:=k_.mpr b;rw[aG b,aF ⟨by omega,by omega⟩];rw[zX,aG (λd=>d rfl)];rw[a];clear a;cases g<;>rfl
theorem HK:∀{ss:ae aq},(nM r f ss).isSome=ai↔∃s∈ss,0<=s/\s<=(Wb r)/\(f s.toNat).isSome=ai
 |[]=>⟨(λh=>nomatch h),λ⟨s,h,_⟩=>bJ h bF⟩
 |s::ss=>by
  have g:=HK (ss:=ss);unfold nM;by_cases c:0<=s/\s<=(Wb r)
  ·rw[aF c];cases hf:f s.toNat with
   |some t=>exact⟨λi=>kO s aH c.1 c.2 (by rw[hf];rfl),λi=>rfl⟩
   |none=>
    refine g.trans ⟨λ⟨q,a,b⟩=>⟨q,aK _ a,b⟩,λ⟨q,a,b,e,d⟩=>?_⟩;rcases bw.mp a with rfl|a
    ·rw[hf]at d;cases d
    ·exact kO q a b e d
  ·rw[aG c];refine g.trans ⟨λ⟨q,a,b⟩=>⟨q,aK _ a,b⟩,λ⟨q,a,b,e,d⟩=>?_⟩;rcases bw.mp a with rfl|a
   ·exact bJ ⟨b,e⟩ c
   ·exact kO q a b e d
set_option tactic.hygienic true in
theorem Q9:∀(C:ae (ae af)) (x r:ae af) (j:af),(cW x C (r.drop j)).isSome=ai->(cW x C r).isSome=ai:=by
 intro c;induction c with
 |nil=>
  intro x r j h;rw[yQ]at h⊢;split at h
  ·rename_i a
   have g:x<:+r:=by rw[<-a.2];exact(k7 _ _).trans (k7 _ _)
   have l:=g.length_le;rw[aF ⟨l,(um.mp g).symm⟩];rfl
  ·cases h
 |cons y C d=>
  intro x r j h;by_cases k:x=[]
  ·subst k;rw[BB]at h⊢;split at h
   ·cases h
   ·rename_i a
    rw[aG (λm=>a (by rw[m,sd]))];rw[jw]at h⊢;rw[fA,jm,<-fA]at h;exact d y (r.drop 1) j h
  ·have n:r.drop j=r.drop (min j (Wb r)):=by
    by_cases a:j<=(Wb r)
    ·rw[bP a]
    ·rw[kX #[197,a],cF #[197,a],cF (bf _)]
   rw[n]at h;have o:min j (Wb r)<=(Wb r):=e9 _ _;generalize min j (Wb r)=j at h o;unfold cW at h⊢;rw[HK]at h⊢;refine kn h ?_;clear h;intro s b p q e;unfold vN at b⊢;rw[aG (by simp),aG k]at b⊢;refine ba (bT.mp b) λi t f=>?_;clear b p;obtain rfl:=f;rw[cj]at q;refine kO ((j+i:af):aq) (bT.mpr (aY (j+i) (CR.mpr ?_) rfl)) (by omega) ?_ ?_
   ·omega
   ·omega
   ·rw[cU]at e⊢;rw[fA]at e;exact e
end
section
variable {x y r h w:ae af} {C:ae (ae af)}
theorem qR {s:ae af}:ur x s=decide (s.take (Wb x)=x):=rfl
theorem zY {p:af}:∀(s:ae af) (k:af),fe x s k=aa p->k<=p:=by
 intro a;induction a with
 |nil=>
  intro k h;unfold fe at h;split at h
  ·cases h;exact bf _
  ·cases h
 |cons c s b=>
  intro k h;unfold fe at h;split at h
  ·cases h;exact bf _
  ·exact Nat.le_of_succ_le (b (k+1) h)
theorem NM (f:x≠[]):∀(n k:af),k+n=(Wb r)+1->nM r (λs=>lj (x::y::C) (r.drop s)) ((eY k n).map λ(i:af)=>i)=match fe x (r.drop k) k with|none=>ah|some s=>(cW y C (r.drop (s+(Wb x)))).map (r.take s::·):=by
 intro a;induction a with
 |zero=>intro k hk;rw[cF #["rU3$a%(%V*<",hk]];unfold fe;rw[qR,aX (by rw[kj];exactλh=>f h.symm)];rfl
 |succ n b=>
  intro k hk;rw[iP,fj];have g:=b (k+1) (by exact aB #["S(ivcFPDwSqqw4i3!6",hk] #["4NGYw;i0i=6kD~cjp_",hk]);unfold nM;rw[aF ⟨by omega,by omega⟩,cU,zX];unfold fe;rw[qR];by_cases hp:(r.drop k).take (Wb x)=x
  ·rw[aG (λd=>d hp),aI hp,aF rfl,fA];show _=(cW y C (r.drop (k+(Wb x)))).map (r.take k::·);cases j:cW y C (r.drop (k+(Wb x)))with
   |some t=>rfl
   |none=>
    show nM r _ _=ah;rw[g];cases hf:fe x (r.drop (k+1)) (k+1)with
    |none=>rfl
    |some s=>
     have e:=zY _ _ hf;have d:cW y C (r.drop (s+(Wb x)))=ah:=by cases hd:cW y C (r.drop (s+(Wb x)))with|none=>rfl|some t=>have:=Q9 C y (r.drop (k+(Wb x))) (s-k) (by rw[fA,show k+(Wb x)+(s-k)=s+(Wb x)by exact aB #["1BJo~c)fQfr$cb;",ag #[9,e]] #["38)L2+dPDp^RM!a",d8 _ _],hd];rfl);rw[j]at this;cases this
     show(cW y C (r.drop (s+(Wb x)))).map _=ah;rw[d];rfl
  ·rw[aF hp,aX hp,aG #[0]];show nM r _ _=_;rw[g];cases hd:r.drop k with
   |nil=>rw[cF (by have:=List.drop_eq_nil_iff.mp hd;exact#[89,this])];unfold fe;rw[qR,aX (by rw[kj];exactλh=>f h.symm)];rfl
   |cons c q=>
    have:r.drop (k+1)=q:=by rw[<-fA,hd];rfl
    rw[this]
theorem CI (a:x≠[]):cW x (y::C) r=match fe x r 0 with|none=>ah|some s=>(cW y C (r.drop (s+(Wb x)))).map (r.take s::·):=by have h:=NM (y:=y) (C:=C) a ((Wb r)+1) 0 (by exact aB #["2W.pc'0>g{"] #["2W.n&zlw0Y"]);rw[<-qv,gB]at h;rw[<-h];unfold cW vN;rw[aG (by simp),aG a]
end
section
variable {x y r h w l:ae af} {C:ae (ae af)}
set_option tactic.hygienic true in
theorem HL:∀(d:ae (ae af)) (r:ae af) (x:ae af) (C:ae (ae af)),x::C=d++[l]->(cW x C r).isSome=ai->(Wb l)<=(Wb r):=by
 intro f;induction f with
 |nil=>
  intro r x C e h;cases e;rw[yQ]at h;split at h
  ·rename_i k;exact k.1
  ·cases h
 |cons m d c=>
  intro r x C e h;refine pR (by clear e;induction d using aV with
   |nil=>exact lg _ _ rfl
   |cons a b=>exact(lg _ _ rfl):∃y q,d++[l]=y::q) λy q g=>?_
  have j:x=m/\C=y::q:=by rw[mL,g]at e;cases e;exact⟨rfl,rfl⟩
  refine dp j ?_;clear j;intro n i;clear e;obtain rfl:=i;by_cases hx:x=[]
  ·subst hx;rw[BB]at h;split at h
   ·cases h
   ·rw[jw]at h;have:=c (r.drop 1) y q g.symm h;rw[cj]at this;exact#[173,this,bY _ _]
  ·rw[CI hx]at h;cases hf:fe x r 0 with|none=>rw[hf]at h;cases h|some s=>rw[hf]at h;have h:=h;rw[jw]at h;have:=c (r.drop (s+(Wb x))) y q g.symm h;rw[cj]at this;exact#[173,this,bY _ _]
end
section
variable {x:ae af}
theorem BC (d:x≠[]):∀(u:ae af) (e k:af),fe x (u.take e) k=match fe x u k with|none=>ah|some p=>if p+(Wb x)<=k+e then aa p else ah
 |[],e,k=>by rw[kj];unfold fe;rw[qR,aX (by rw[kj];exactλh=>d h.symm)];rfl
 |c::u,0,k=>by
  have a:=k_.mpr d;have i:fe x ((c::u).take 0) k=ah:=by rw[List.take_zero];unfold fe;rw[qR,aX (by rw[kj];exactλh=>d h.symm)];rfl
  rw[i];cases hf:fe x (c::u) k with
  |none=>rfl
  |some p=>
   have:=zY _ _ hf;show ah=if p+(Wb x)<=k+0 then aa p else ah
   rw[aG (by exactλb=>#["68~v7e?uR>=B=}1_",a,this,b])]
 |c::u,e+1,k=>by
  have g:=BC d u e (k+1);rw[qE];unfold fe;rw[qR,qR,<-qE,qY];by_cases hp:(c::u).take (Wb x)=x
  ·rw[aI hp,aF rfl];by_cases a:(Wb x)<=e+1
   ·rw[bP a,aI hp,aF rfl];show aa k=if k+(Wb x)<=k+(e+1)then aa k else ah
    rw[aF #["Hdrm*;B&FJ1Dm1f",a]]
   ·have f:(c::u).take (min (Wb x) (e+1))≠x:=λh=>by have:=aU fu h;rw[bR]at this;exact#[120,a,this,e9 _ _,cZ _ _]
    rw[aX f,aG #[0]];show fe x (u.take e) (k+1)=if k+(Wb x)<=k+(e+1)then aa k else ah
    rw[g,aG (by exactλb=>#["Ha<v*Gi>B91RN(m",a,b])];cases hf:fe x u (k+1)with|none=>rfl|some p=>have:=zY _ _ hf;show(if p+(Wb x)<=k+1+e then aa p else ah)=ah;rw[aG (by exactλb=>#["Bd9RK^DdJRD41KO0KGF!",a,this,b])]
  ·have f:(c::u).take (min (Wb x) (e+1))≠x:=λh=>by
    by_cases a:(Wb x)<=e+1
    ·rw[bP a]at h;exact hp h
    ·have:=aU fu h;rw[bR]at this;exact#[120,a,this,e9 _ _,cZ _ _]
   rw[aX f,aX hp,aG #[0],aG #[0]];show fe x (u.take e) (k+1)=match fe x u (k+1)with|none=>ah|some p=>if p+(Wb x)<=k+(e+1)then aa p else ah
   rw[g,show k+1+e=k+(e+1)by exact aB #[19] #[20]]
end
section
variable {x:ae af}
theorem GU (j:af):∀(u:ae af) (k:af),fe x u (k+j)=(fe x u k).map (·+j):=by
 intro a;induction a with
 |nil=>
  intro k;unfold fe;by_cases h:ur x []=ai
  ·rw[aF h,aF h];rfl
  ·rw[aG h,aG h];rfl
 |cons c u b=>
  intro k;have d:=b (k+1);unfold fe;by_cases h:ur x (c::u)=ai
  ·rw[aF h,aF h];rfl
  ·rw[aG h,aG h];rw[<-d,show k+j+1=k+1+j by exact aB #[182] #[181]]
end
section
variable {x w l:ae af}
theorem wT {a b:af}:dZ w a b=(w.drop a).take (b-a):=by unfold dZ;rw[vU]
set_option tactic.hygienic true in
theorem Q' {stop:af} (f:(Wb l)<=(Wb w)) (c:stop=(Wb w)-(Wb l)) (hd:w.drop stop=l):∀(i:ae (ae af)) (a:af) (x:ae af) (k:ae (ae af)),x::k=i++[l]->a<=stop->(md w stop a i).map (λr=>r.1++[dZ w r.2 stop])=cW x k (w.drop a):=by
 intro u;induction u with
 |nil=>intro a x k e d;cases e;rw[yQ,cj,fA,aF ⟨#[32,c,d,ag #[13,c,d,bY _ _],ag f],by rw[show a+((Wb w)-a-(Wb l))=stop by exact aB #["fK!(JgWodG>7(.'kL0QNjt6,oc",c,ag #[13,c,d,bY _ _],ag f,ag #[32,c,d,ag #[13,c,d,bY _ _],ag f]] #["felH(KAn{d?4bsa?;Zq;FUb!GU",c,ag #[13,c,d,bY _ _],ag f,ag #[32,c,d,ag #[13,c,d,bY _ _],ag f]]];exact hd⟩];show aa ([]++[dZ w a stop])=_;rw[wT,show stop-a=(Wb w)-a-(Wb l)by exact aB #["Cc?{o!Dab1CC<4.a)}aMz^*cVpw*H+",c,ag d,ag #[13,c,d,bY _ _],ag f,ag #[32,c,d,ag #[13,c,d,bY _ _],ag f]] #["Cc?{oyc*T8c13d0_T?aFNmWLMhdDiS",c,ag d,ag #[13,c,d,bY _ _],ag f,ag #[32,c,d,ag #[13,c,d,bY _ _],ag f]]];rfl
 |cons m i v=>
  intro a x k e d;refine pR (by clear e;induction i using aV with
   |nil=>exact lg _ _ rfl
   |cons a b=>exact(lg _ _ rfl):∃y q,i++[l]=y::q) λy q z=>?_
  have D:x=m/\k=y::q:=by rw[mL,z]at e;cases e;exact⟨rfl,rfl⟩
  refine dp D ?_;clear D;intro A B;clear e;refine dH A ?_;obtain rfl:=B;have F:=λE (C:E<=stop)=>v E y q z.symm C;have room:∀b,stop<b->b<=(Wb w)->cW y q (w.drop b)=ah:=λb n G=>by cases j:cW y q (w.drop b)with|none=>rfl|some t=>have:=HL i (w.drop b) y q z.symm (by rw[j];rfl);rw[cj]at this;omega
  have step:∀p b:af,b<=stop->((md w stop b i).map λr=>(dZ w a p::r.1,r.2)).map (λr=>r.1++[dZ w r.2 stop])=(cW y q (w.drop b)).map (dZ w a p::·):=λp b n=>by rw[<-F b n];cases md w stop b i<;>rfl
  unfold md ve;by_cases hx:x=[]
  ·subst hx;rw[aF rfl,BB,fA];by_cases g:stop<=a
   ·rw[aF g];show ah=_;split
    ·rfl
    ·rename_i H
     have:0<(w.drop a).length:=k_.mpr H;rw[cj]at this;rw[room (a+1) #["=U:eC~;oSq",g] #["oAaHUup|PlopgR)",this,ag #[128,c,d,ag f]]];rfl
   ·rw[aG g,aG (λh=>by have:=aU fu h;rw[cj,cR]at this;exact#["2FMy)j%jldF>u236gB>P3y",c,g,this,bY _ _,d8 _ _])];show((md w stop (a+1) i).map _).map _=_;rw[step _ _ #["6;C;HAS)Fh",g],wT,show a+1-a=1 by exact aB #["Ak?Xu<H02IC)",ag #[95]] #["STd{zWCA+g0",d8 _ _]]
  ·rw[aG hx,wT,BC hx,CI hx];have o:=GU (x:=x) a (w.drop a) 0;rw[eQ]at o;rw[o];cases hf:fe x (w.drop a) 0 with
   |none=>rfl
   |some s=>
    refine dp (vf _ _ _ hf) λI n=>?_;rw[cj]at n;show qi _ (match(if s+a+(Wb x)<=a+(stop-a)then aa (s+a)else ah)with|none=>ah|some hit=>(md w stop (hit+(Wb x)) i).map λr=>(dZ w a hit::r.1,r.2))=(cW y q ((w.drop a).drop (s+(Wb x)))).map ((w.drop a).take s::·);rw[fA];by_cases j:s+a+(Wb x)<=a+(stop-a)
    ·rw[aF j];rw[step _ _ #["3EdJ!z^HKgYHMC,WbxzgV`",j,ag d],wT,show s+a-a=s by exact aB #["rU3mO?xaoHO",ag #["Q~E=C"]] #["rU3mO?xaoGk",d8 _ _],show s+a+(Wb x)=a+(s+(Wb x))by exact aB #["3Ua{BM+LeM;"] #["3S_tRRyjY!o"]]
    ·rw[aG j,room (a+(s+(Wb x))) #["3FZrh'fF=rwtd+Bio8oA%I",j,d8 _ _] (by have:0<(Wb x):=k_.mpr hx;exact#["M=7Q~U27L}*z6;B)X=$O",n,ag #[128,c,d,ag f]])];rfl
end
section
variable {x y r h w l:ae af} {C:ae (ae af)}
set_option tactic.hygienic true in
theorem TB:∀(d:ae (ae af)) (r:ae af) (x:ae af) (C:ae (ae af)),x::C=d++[l]->(cW x C r).isSome=ai->l<:+r:=by
 intro f;induction f with
 |nil=>
  intro r x C e h;cases e;rw[yQ]at h;split at h
  ·rename_i n;have j:=k7 ((Wb r)-(Wb l)) r;rw[n.2]at j;exact j
  ·cases h
 |cons m d c=>
  intro r x C e h;refine pR (by clear e;induction d using aV with
   |nil=>exact lg _ _ rfl
   |cons a b=>exact(lg _ _ rfl):∃y q,d++[l]=y::q) λy q g=>?_
  have k:x=m/\C=y::q:=by rw[mL,g]at e;cases e;exact⟨rfl,rfl⟩
  refine dp k ?_;clear k;intro o i;clear e;obtain rfl:=i;by_cases hx:x=[]
  ·subst hx;rw[BB]at h;split at h
   ·cases h
   ·rw[jw]at h;exact(c (r.drop 1) y q g.symm h).trans (k7 _ _)
  ·rw[CI hx]at h;cases hf:fe x r 0 with|none=>rw[hf]at h;cases h|some s=>rw[hf]at h;have h:=h;rw[jw]at h;exact(c (r.drop (s+(Wb x))) y q g.symm h).trans (k7 _ _)
end
section
variable {x y r h w l f:ae af} {J C I:ae (ae af)}
theorem NN (m:2<=(Wb I)):wQ w I=lj I w:=by
 refine yx (by
  match I,m with
  |f::x::J,_=>exact(DY f ((x::J).dropLast) ((x::J).getLast (by simp)) (by rw[mj])):∃f C l,I=f::(C++[l])) λf C l g=>?_;clear m;refine dq g ?_
 refine pR (by induction C using aV with
  |nil=>exact lg _ _ rfl
  |cons a b=>exact(lg _ _ rfl):∃y q,C++[l]=y::q) λy q e=>?_
 have n:FF (f::(C++[l]))=C:=by unfold FF;rw[DX,List.tail_cons,aQ,ar,bj,show(Wb C)+1+1-2=(Wb C)by exact aB #["7XJ!nghZB'(<6",ag #[198]] #["7XJ!ttlpg=!|g",d8 _ _],kM]
 have d:(f::(C++[l])).getLastD []=l:=by rw[nZ,xc]
 unfold wQ;rw[n,d,e];rw[zX];have none_if:∀o:au (ae (ae af)),(o.isSome=ai->False)->o=ah:=λo h=>by induction o using cX with|none=>rfl|some t=>exact(h rfl).elim
 by_cases i:w.take (Wb f)=f
 ·have j:(Wb f)<=(Wb w):=by have:=aU fu i;rw[bR]at this;exact#[84,this,e9 _ _]
  have c:¬(w.take (Wb f)≠f):=λk=>k i;rw[aG c,aG c];by_cases hlen:(Wb w)<(Wb f)+(Wb l)
  ·rw[aF hlen];exact(none_if _ λh=>by have:=HL C (w.drop (Wb f)) y q e.symm h;rw[cj]at this;exact#["1BJBX4kbafPk8~Q",hlen,this,ag j]).symm
  ·rw[aG hlen];by_cases hd:w.drop ((Wb w)-(Wb l))=l
   ·rw[aG (λk=>k hd)];exact Q' #["4fR.oj,bBe",hlen] rfl hd C (Wb f) y q e.symm #["W!X5x$(U>d?4X+0",hlen,d8 _ _]
   ·rw[aF hd];exact(none_if _ λh=>hd (um.mp ((TB C (w.drop (Wb f)) y q e.symm h).trans (k7 _ _))).symm).symm
 ·have c:=i;rw[aF c,aF c];split<;>rfl
end
section
variable {b t:ae af}
theorem FM (h:b.all goodD=ai):NumText.AllDigits b:=λc a=>by have:=cy.mp h c a;unfold goodD at this;simp only[el,gY,fw]at this;exact⟨#[80,this.1],#[151,this.2]⟩
theorem BD (m:af):gm (m:af)=(Nat.toDigits 10 m).map wX:=by show(Nat.repr m).toList.map wX=_;rw[Nat.toList_repr]
theorem Dr (c:af) (a:48<=c) (b:c<=57):(B1 c).toNat=c:=by
 have h:∀c:af,c<58->48<=c->(B1 c).toNat=c:=by decide
 exact h c #["51:<%'?9iH^ef)",b] a
theorem NO (h:NumText.AllDigits b):(b.map B1).map wX=b:=by
 rw[iA]
 conv=>rhs;rw[<-List.map_id b]
 exact ng λc a=>Dr c (h c a).1 (h c a).2
theorem GV (h:b.all goodD=ai) (a:(Wb b)=1\/∃c r,b=c::r/\49<=c):gm (iM b:af)=b:=by
 have hd:=FM h;have d:1<=(Wb b):=by rcases a with a|⟨c,r,rfl,_⟩<;>simp_all
 rw[BD,show iM b=NumText.digitsVal b from rfl,NumText.toDigits_digitsVal ((Wb b)-1) b (aB #[27,d8 _ _] #[29,ag d]) hd (by rcases a with a|a;left;exact aB #["h|zw(ukx^rTHMq",a,ag d] #[4];right;exact a),NO hd]
set_option tactic.hygienic true in
theorem Jk {r:ae af} (h:(48::r).all goodD=ai) (b:r≠[]):gm (iM (48::r):af)≠48::r:=by
 have hd:=FM h;rw[BD,show iM (48::r)=NumText.digitsVal (48::r)from rfl,NumText.toDigits_all _ hd];rw[List.dropWhile_cons_of_pos #[0]];intro e;split at e
 ·rename_i h0
  have:r=[]:=by clear h h0 hd b;induction r using aV with|nil=>rfl|cons=>cases e
  exact b this
 ·rename_i c q h0
  have d:c∈(48::r):=aK _ ((List.dropWhile_sublist _).subset (by rw[h0];exact aH));rw[fj,fj,Dr c (hd c d).1 (hd c d).2]at e;have a:=(fB e).1;have:=List.head?_dropWhile_not (λx=>x==48) r;rw[h0]at this;simp[a]at this
end
section
variable {b t a:ae af}
theorem FN (c:af):goodD c=ai↔48<=c/\c<=57:=by unfold goodD;rw[el,gY,fw,fw];omega
theorem Q_ (c:af):uH [48,49,50,51,52,53,54,55,56,57] c=goodD c:=by
 by_cases h:c<58
 ·exact(by decide+kernel:∀c<58,uH [48,49,50,51,52,53,54,55,56,57] c=goodD c) c h
 ·obtain⟨k,rfl⟩:∃k,c=k+58:=⟨c-58,(ag (o8 h)).symm⟩
  rfl
theorem NP (c:af):uH [49,50,51,52,53,54,55,56,57] c=ai↔49<=c/\c<=57:=by
 by_cases h:c<58
 ·exact(by decide+kernel:∀c<58,(uH [49,50,51,52,53,54,55,56,57] c=ai↔49<=c/\c<=57)) c h
 ·obtain⟨k,rfl⟩:∃k,c=k+58:=⟨c-58,(ag (o8 h)).symm⟩
  exact⟨λq=>(nomatch (show aD=ai from q)),λq=>bJ (dI (BS 58 k) q.2) #[0]⟩
theorem Lv:∀(b:ae af) (a:af),b.foldl (λn d=>n*10+(d-48)) a=a*10^(Wb b)+iM b:=by
 intro f;induction f with
 |nil=>exactλa=>by simp[iM]
 |cons c b e=>intro a;show b.foldl _ (a*10+(c-48))=a*10^((Wb b)+1)+b.foldl _ (0*10+(c-48));rw[e,e (0*10+(c-48)),oQ,Gr,qa,eQ,xl,ya 10,iJ]
theorem x7 (c:af) (b:ae af):iM (c::b)=(c-48)*10^(Wb b)+iM b:=by show b.foldl _ (0*10+(c-48))=_;rw[Lv,qa,eQ]
theorem FP:∀(a b:ae af),(Wb a)=(Wb b)->a.all goodD=ai->b.all goodD=ai->(iM a<iM b↔a<b)
 |[],[],_,_,_=>by simp[iM]
 |c::a,d::b,e,f,h2=>by
  rw[jz,cB,FN]at f h2;have e:=f_ e;have i:=FP a b e f.2 h2.2;have j:=yO a f.2;have k:=yO b h2.2;rw[<-e]at k;rw[x7,x7,List.cons_lt_cons_iff,<-i,<-e];generalize 10^(Wb a)=p at*;rcases Nat.lt_trichotomy c d with h|h|h
  ·have:(c-48)*p+p<=(d-48)*p:=by rw[<-Gu];exact kB _ #[101,h,ag f.1.1,ag h2.1.1]
   constructor
   ·intro g;exact .inl h
   ·intro g;exact#["D^<T$G>ANkcOqzBc2",j,this]
  ·clear h2;refine dq h ?_;constructor
   ·intro q;exact .inr ⟨rfl,#["rU3^vsdSjO|",q]⟩
   ·rintro(q|⟨_,q⟩)
    ·exact#["1LRyD`$)jso=",q]
    ·exact#["1LRyD`,81nP4",q]
  ·have:(d-48)*p+p<=(c-48)*p:=by rw[<-Gu];exact kB _ #[101,h,ag h2.1.1,ag f.1.1]
   constructor
   ·intro g;omega
   ·rintro(q|⟨q,_⟩)<;>(first|exact#["1Ep.<U7zptrBv:TY",h,q]|exact#["1Ep.<U7zptrVP}5c",h,q])
theorem Ra:iM wP=9007199254740991:=by decide
theorem NQ (t:ae af):x2 t=tU t:=by
 unfold x2 tU;by_cases h0:t=[48]
 ·refine dq h0 ?_;rw[aF rfl];decide
 rw[aG h0];generalize u:iB t=b
 match b with
 |[]=>rw[aF (.inl rfl),aF rfl]
 |c::r=>
  have m:(c::r:ae af)≠[]:=by simp
  rw[aG m];show _=(if uH [49,50,51,52,53,54,55,56,57] c=aD then aD else _);have j:(c::r).all (uH [48,49,50,51,52,53,54,55,56,57])=(c::r).all goodD:=by congr 1;funext x;exact Q_ x
  rw[j];cases g:(c::r).all goodD with
  |false=>simp
  |true=>
   have h:48<=c/\c<=57:=by rw[jz,cB,FN]at g;exact g.1
   rw[aG (c:=ai=aD) (by simp),aG (c:=ai=aD) (by simp)];by_cases f:c=48
   ·subst f;rw[aF rfl];by_cases n:r=[]
    ·subst n;split
     ·rfl
     ·split
      ·rfl
      ·show(decide (0<0)||decide ([48]=t))=aD;rw[aX (p:=[48]=t) (λe=>h0 e.symm)];rfl
    ·split
     ·rfl
     ·rw[aF (.inr (Jk g n))]
   ·rw[aG (c:=uH [49,50,51,52,53,54,55,56,57] c=aD) (by rw[Bool.not_eq_false,NP];exact⟨#["BZ|VEuD++&kR0",bW h.1 (fR f)],h.2⟩)];have hd:=GV g (.inr (dY c r rfl #["BZ|VEuD++&kR1",bW h.1 (fR f)]));have o:0<iM (c::r):=by
     rw[x7];have:0<10^(Wb r):=Nat.pow_pos #[202];have:1*10^(Wb r)<=(c-48)*10^(Wb r):=kB _ #["lLjsV:>JwXHS?Mbc+*{<|",d8 _ _,bW h.1 (fR f)];exact#["CR{)v7)Zo2Wm|Yv_",(by assumption),this]
    by_cases a:16<(c::r).length
    ·rw[aF (.inr a)];rw[aX (by exactλk=>#["1Zt8p'(LWW;c2?",a,k]),aX (by exactλk=>#["1Zt8p?+'jkVV.E",a,k])];rfl
    ·rw[aG (by rintro(e|e);exact m e;exact a e)];have q:=yO _ g;by_cases d:(c::r).length<16
     ·have:10^(c::r).length<=10^15:=xd #[202] #["7DU?Gq9q)v+?V",d];rw[aG (by rintro(e|e);(· omega);exact e hd)];rw[aI o,aI d];rfl
     ·have s:(c::r).length=wP.length:=by show _=16;exact aB #[54,a] #[162,d]
      have l:=FP wP (c::r) s.symm #[0] g;rw[Ra]at l;rw[aX d,aI (p:=(c::r).length=16) (by exact aB #[54,a] #[162,d])];show _=!(decide (wP<c::r));by_cases i:9007199254740991<iM (c::r)
      ·rw[aF (.inl i),aI (l.mp i)];rfl
      ·rw[aG (by rintro(e|e);exact i e;exact e hd),aI o,aX (λe=>i (l.mpr e))];rfl
end
theorem Jl {xs:ae (ae af)} {ts:ae aq} (b:(Wb xs)=(Wb ts)+1) w:x4 w xs ts=Bw tU ts (lj xs w):=by
 have c:=funext NQ;unfold x4;by_cases h:ts=[]
 ·subst h;rw[aF rfl]
  match xs,b with
  |[x],_=>
   show(if w=x then aa []else ah)=Bw tU [] (if w.take (Wb x)≠x then ah else if w.drop (Wb x)=[]then aa []else ah);by_cases e:w=x
   ·refine dq e ?_;rw[aF rfl,aG (by rw[pe];exactλh=>h rfl),aF (by rw[Am])];rfl
   ·rw[aG e];by_cases a:w.take (Wb x)=x
    ·rw[aG (λh=>h a),aG (λd=>e (by rw[<-dC (Wb x) w,a,d,aJ]))];rfl
    ·rw[aF a];rfl
 ·rw[aG h,c,NN (by induction ts using aV with
   |nil=>exact bJ rfl h
   |cons t ts=>rw[b,aQ];exact#[198])]
end
section
open PySem
variable {x y:ae af} {l:ae (ae af)}
set_option tactic.hygienic true in
theorem NR:y∈jk l x↔y∈l\/y=x:=by
 unfold jk;split
 ·rename_i h;exact⟨.inl,λe=>e.elim id λe=>e▸h⟩
 ·simp
set_option tactic.hygienic true in
theorem Jm (h:l.Nodup):(jk l x).Nodup:=by
 unfold jk;split
 ·exact h
 ·rename_i e;exact l4.mpr (dy h (dJ _ _) (λa d b c=>by rw[aL]at c;rintro rfl;exact e (c▸d)))
theorem Lw:∀(l acc:ae (ae af)),y∈l.foldl jk acc↔y∈acc\/y∈l:=by
 intro a;induction a with
 |nil=>exactλacc=>by simp
 |cons x l b=>exactλacc=>by rw[kh,b,NR,bw,or_assoc]
theorem GW:∀(l acc:ae (ae af)),acc.Nodup->(l.foldl jk acc).Nodup:=by intro a;induction a with|nil=>exactλc h=>h|cons _ l b=>exactλc h=>b _ (Jm h)
set_option tactic.hygienic true in
theorem NS {x y:aq} {l:ae aq}:y∈ji l x↔y∈l\/y=x:=by
 rw[o5];split
 ·rename_i h;exact⟨.inl,λe=>e.elim id λe=>e▸h⟩
 ·simp
set_option tactic.hygienic true in
theorem Jn {x:aq} {l:ae aq} (h:l.Nodup):(ji l x).Nodup:=by
 rw[o5];split
 ·exact h
 ·rename_i e;exact l4.mpr (dy h (dJ _ _) (λa d b c=>by rw[aL]at c;rintro rfl;exact e (c▸d)))
theorem Ly {y:aq}:∀(l acc:ae aq),y∈l.foldl ji acc↔y∈acc\/y∈l:=by
 intro a;induction a with
 |nil=>exactλacc=>by simp
 |cons x l b=>exactλacc=>by rw[kh,b,NS,bw,or_assoc]
theorem GX:∀(l acc:ae aq),acc.Nodup->(l.foldl ji acc).Nodup:=by intro a;induction a with|nil=>exactλc h=>h|cons _ l b=>exactλc h=>b _ (Jn h)
end
section
open PySem
noncomputable abbrev x8:ae af:=[83,78,65,80,75]
noncomputable abbrev FQ:ae aq:=[6,7,0,16,24]
def tX (x:ae af):Prop:=∀c∈x,c∉x8
noncomputable def rd:ae (ae af)->ae aq->ae af
 |[],_=>[]
 |x::_,[]=>x
 |x::xs,t::ts=>x++(kU nt t++rd xs ts)
structure iD (p:Pc):Prop where
 len:p.1.length=p.2.length+1
 low:∀x∈p.1,tX x
 sig:∀t∈p.2,t∈FQ
noncomputable def k8 (p:Pc):ae af:=rd p.1 p.2
theorem Pj:∀(ts:ae aq) (x:ae af) (xs:ae (ae af)),(Wb xs)=(Wb ts)->x++uK nt ts xs=rd (x::xs) ts
 |[],x,xs,_=>aJ x
 |t::ts,x,y::ys,h=>by show x++(kU nt t++y++uK nt ts ys)=x++(kU nt t++rd (y::ys) ts);rw[<-Pj ts y ys (f_ h),aj]
theorem NT {p:Pc} (h:iD p):p.1.headD []++uK nt p.2 p.1.tail=k8 p:=by
 obtain⟨xs,ts⟩:=p
 match xs,h.len with|x::xs,a=>exact Pj ts x xs (f_ a)
variable {x:ae af}
theorem Rb {y:ae af} (a:tX x) (b:tX y):tX (x++y):=λc d=>(b7.mp d).elim (a c) (b c)
theorem Ds (x z:ae af) (xs b:ae (ae af)):iZ (x::z::xs) b=x::iZ (z::xs) b:=by unfold iZ;rw[nZ,nZ,nZ];rfl
theorem CJ:∀(a:ae (ae af)) (ts:ae aq) (y:ae af) (b:ae (ae af)) (us:ae aq),(Wb a)=(Wb ts)+1->rd (iZ a (y::b)) (ts++us)=rd a ts++rd (y::b) us
 |[x],[],y,b,us,_=>by induction us using aV with|nil=>rfl|cons u us=>exact aj _ _ _
 |x::z::xs,t::ts,y,b,us,h=>by rw[Ds];show x++(kU nt t++rd (iZ (z::xs) (y::b)) (ts++us))=x++(kU nt t++rd (z::xs) ts)++rd (y::b) us;rw[CJ (z::xs) ts y b us (f_ h)];simp only[aj]
theorem zZ:∀(a:ae (ae af)) (y:ae af) (b:ae (ae af)),a≠[]->(∀x∈a,tX x)->(∀x∈y::b,tX x)->(∀x∈iZ a (y::b),tX x)/\(iZ a (y::b)).length+1=(Wb a)+((Wb b)+1)
 |[x],y,b,_,c,h2=>by
  refine⟨λz d=>?_,by show((Wb b)+1)+1=1+((Wb b)+1);exact aB #["SV6m?;EOM&}"] #["TJkgZ|u?rRi"]⟩;rcases bw.mp (d:z∈(x++y)::b)with rfl|d
  ·exact Rb (c _ aH) (h2 _ aH)
  ·exact h2 _ (aK _ d)
 |x::z::xs,y,b,_,c,h2=>by
  refine dp (zZ (z::xs) y b (by simp) (λx h=>c x (aK _ h)) h2) λf g=>?_;rw[Ds];refine⟨λq e=>?_,by rw[aQ,g];simp only[aQ];exact aB #[">I|p+NO_i:SjJ+MP6"] #["^blYILb'.=uNa<;TM"]⟩;rcases bw.mp e with rfl|e
  ·exact c _ aH
  ·exact f q e
theorem x9 {o q:Pc} (c:iD o) (d:iD q) (k:tX x):iD (lZ o q x)/\k8 (lZ o q x)=k8 o++k8 q++x:=by
 obtain⟨a,ts⟩:=o;obtain⟨b,us⟩:=q
 match b,d.len with
 |y::ys,l=>
  have m:a≠[]:=λe=>by have:=c.len;rw[e]at this;cases this
  refine dp (zZ a y ys m c.low d.low) λg1 g2=>?_;have f:(iZ a (y::ys)).length=(ts++us).length+1:=by have g:=c.len;have h:=l;rewrite[ar];exact aB #["H.wo2M?Gn7<Y3sJmWl9Jmyb5En;J.",g2,g,h] #["2t$^g48qF6GXL_bTnrEysVtE1F4T4",g2,g,h]
  refine dp (zZ (iZ a (y::ys)) x [] (tS _ _) g1 (λz i=>by rw[aL]at i;refine dq i ?_;exact k)) λg3 j=>?_;refine⟨⟨?_,g3,λt n=>(b7.mp n).elim (c.sig t) (d.sig t)⟩,?_⟩
  ·show(iZ (iZ a (y::ys)) [x]).length=(ts++us).length+1;have:([]:ae (ae af)).length=0:=rfl;exact aB #["?7haOdIjCdtoWVnB!(;0{M&A",f,j,this] #["Bb.(_?,0{0&}?T|'y3B;",f,j]
  ·show rd (iZ (iZ a (y::ys)) [x]) (ts++us)=rd a ts++rd (y::ys) us++x;have e:=CJ (iZ a (y::ys)) (ts++us) x [] [] f;rw[aJ]at e;rw[e,CJ a ts y ys us c.len];rfl
theorem Lz {J P:ae Pc} {W h:ae (ae af)} (k:tX x) (l:∀o∈J,iD o) (m:∀q∈P,iD q) (n:∀w,w∈J.map k8↔w∈W) (p:∀w,w∈P.map k8↔w∈h):
  (∀o∈lH J P x,iD o)/\∀w,w∈(lH J P x).map k8↔w∈mF W h x:=by
 refine⟨λo d=>?_,λw=>?_⟩
 ·refine ba (gT.mp d) λa f d=>?_;refine ba (bT.mp d) λb g c=>?_;clear d;refine dH c ?_;exact(x9 (l a f) (m b g) k).1
 ·constructor
  ·intro e;refine ba (bT.mp e) λo d c=>?_;clear e;refine dH c ?_;refine ba (gT.mp d) λa f d=>?_;refine ba (bT.mp d) λb g c=>?_;clear d;obtain rfl:=c;rw[(x9 (l a f) (m b g) k).2];exact gT.mpr (aY _ ((n _).mp (iw f)) (bT.mpr (aY _ ((p _).mp (iw g)) rfl)))
  ·intro e;refine ba (gT.mp e) λr i e=>?_;refine ba (bT.mp e) λs j c=>?_;clear e;refine dH c ?_;refine ba (bT.mp ((n _).mpr i)) λa f c=>?_;clear i e;obtain rfl:=c;refine ba (bT.mp ((p _).mpr j)) λb g c=>?_;clear j;obtain rfl:=c;exact bT.mpr (aY (lZ a b x) (gT.mpr (aY a f (bT.mpr (aY b g rfl)))) ((x9 (l a f) (m b g) k).2))
structure Jo (T:ae Row) (t:aq) (h:ae (ae af)):Prop where
 clean:∀q∈cu T t,iD q
 mem:∀w,w∈(cu T t).map k8↔w∈h
 len:(cu T t).length=(Wb h)
noncomputable def NU {α β:Type} (R:α->β->Prop) (a:ae α):ae β->Prop:=a.rec (λb=>b=[]) (λx e d b=>∃y c,b=y::c/\R x y/\d c)
abbrev Pk (T:ae Row):ae aq->ae (ae (ae af))->Prop:=NU (Jo T)
theorem GY {T:ae Row} {ts:ae aq} {c:ae (ae (ae af))} (xs:ae (ae af)) (J:ae Pc) (W:ae (ae af)) (H:Pk T ts c) (d:(Wb xs)=(Wb ts)) (j:∀x∈xs,tX x) (k:∀o∈J,iD o) (l:∀w,w∈J.map k8↔w∈W) (m:(Wb J)=W.length) (n:(Wb J)<=200):
  (kS T J ts xs=ah/\me W c xs=ah)\/∃b i,kS T J ts xs=aa b/\me W c xs=aa i/\(∀o∈b,iD o)/\(∀w,w∈b.map k8↔w∈i)/\(Wb b)<=200:=by
 induction ts generalizing c xs J W with
 |nil=>refine dq (H:c=[]) ?_;exact .inr (qJ J W rfl rfl k l n)
 |cons t ts p=>
  refine eV H λh f e a r=>?_;clear H;refine dq e ?_;rcases xs with _|⟨x,xs⟩
  ·exact nomatch d
  show((if 200<(Wb J)*(cu T t).length then ah else kS T (lH J (cu T t) x) ts xs)=ah/\(if 200<W.length*(Wb h)then ah else me (mF W h x) f xs)=ah)\/∃b i,(if 200<(Wb J)*(cu T t).length then ah else kS T (lH J (cu T t) x) ts xs)=aa b/\(if 200<W.length*(Wb h)then ah else me (mF W h x) f xs)=aa i/\_;rw[<-m,<-a.len];by_cases g:200<(Wb J)*(cu T t).length
  ·rw[aF g,aF g];exact .inl ⟨rfl,rfl⟩
  ·rw[aG g,aG g];refine dp (Lz (j x aH) k a.clean l a.mem) λq s=>?_;exact p xs _ _ r (f_ d) (λy u=>j y (aK _ u)) q s (by rw[zR,Dm,m,a.len]) (by rw[zR];exact#[153,g])
end
section
open PySem
theorem Dt {c d:af} {r s:ae af} (b:c∈x8) (hd:d∈x8):∀{x y:ae af},tX x->tX y->x++c::r=y++d::s->x=y/\c=d/\r=s
 |[],[],_,_,h=>⟨rfl,fB h⟩
 |[],y::ys,_,h2,h=>bJ ((fB h).1▸b) (h2 y aH)
 |x::xs,[],a,_,h=>bJ ((fB h).1▸hd) (a x aH)
 |x::xs,y::ys,a,h2,h=>by refine dp (fB h) λe f=>?_;refine dp (Dt b hd (λc h=>a c (aK _ h)) (λc h=>h2 c (aK _ h)) f) λg i=>?_;exact⟨by rw[e,g],i⟩
theorem FR {c:af} {y s x:ae af} (a:c∈x8) (b:tX x) (h:x=y++c::s):False:=b c (h▸eA _ aH) a
theorem vQ:∀t∈FQ,∃c∈x8,kU nt t=[c]/\(c=83->t=6):=by
 intro t a;simp only[bw,bF,jM]at a;rcases a with rfl|rfl|rfl|rfl|rfl
 ·exact dS 83 #[0] rfl (λb=>rfl)
 ·exact dS 78 #[0] rfl (λh=>by cases h)
 ·exact dS 65 #[0] rfl (λh=>by cases h)
 ·exact dS 80 #[0] rfl (λh=>by cases h)
 ·exact dS 75 #[0] rfl (λh=>by cases h)
theorem TC:∀t∈FQ,∀u∈FQ,kU nt t=kU nt u->t=u:=by decide+kernel
theorem LA:∀(a:ae (ae af)) (ts:ae aq) (b:ae (ae af)) (us:ae aq),iD (a,ts)->iD (b,us)->rd a ts=rd b us->a=b/\ts=us
 |[x],[],[y],[],_,_,h=>⟨aU (λx=>[x]) h,rfl⟩
 |[x],[],y::b,u::us,f,h2,h=>by refine cV (vQ u (h2.sig u aH)) λc g e i=>?_;have h:x=y++(kU nt u++rd b us):=h;rw[e]at h;exact(FR g (f.low x aH) h).elim
 |x::a,t::ts,[y],[],f,h2,h=>by refine cV (vQ t (f.sig t aH)) λc g e i=>?_;have h:x++(kU nt t++rd a ts)=y:=h;rw[e]at h;exact(FR g (h2.low y aH) h.symm).elim
 |x::a,t::ts,y::b,u::us,f,h2,h=>by refine cV (vQ t (f.sig t aH)) λc g e i=>?_;refine cV (vQ u (h2.sig u aH)) λd hd j i=>?_;have h:x++(kU nt t++rd a ts)=y++(kU nt u++rd b us):=h;rw[e,j]at h;refine iK (Dt g hd (f.low x aH) (h2.low y aH) h) λk l m=>?_;refine dp (LA a ts b us ⟨f_ f.len,λx h=>f.low x (aK _ h),λx h=>f.sig x (aK _ h)⟩ ⟨f_ h2.len,λx h=>h2.low x (aK _ h),λx h=>h2.sig x (aK _ h)⟩ m) λq1 n=>?_;have o:=TC t (f.sig t aH) u (h2.sig u aH) (by rw[e,j,l]);exact⟨by rw[k,q1],by rw[o,n]⟩
 |[],_,_,_,f,_,_=>bJ f.len (pf _).symm
 |_,_,[],_,_,h2,_=>bJ h2.len (pf _).symm
 |_::_::_,[],_,_,f,_,_=>bJ f.len (by simp)
 |_,_,_::_::_,[],_,h2,_=>bJ h2.len (by simp)
theorem NV {p q:Pc} (a:iD p) (b:iD q) (h:k8 p=k8 q):p=q:=by refine dp (LA p.1 p.2 q.1 q.2 a b h) λc d=>?_;exact Gi c d
theorem NW (w:ae af):tV w=ai↔w≠[]/\∀c∈w,c=83:=by
 have a:∀n,rep [83] n=CP n 83:=λn=>by induction n with|zero=>rfl|succ n b=>show 83::rep [83] n=_;rw[b];rfl
 unfold tV;rw[cB,el,fw,nR,a,List.eq_replicate_iff];simp
theorem Jp {x:ae af} (a:tX x) (b:∀c∈x,c=83):x=[]:=by induction x using aV with|nil=>rfl|cons c x=>exact bJ ((b c aH)▸(by decide:83∈x8)) (a c aH)
theorem TF:∀(a:ae (ae af)) (ts:ae aq),iD (a,ts)->((∀c∈rd a ts,c=83)↔nK (a,ts)=ai)
 |[x],[],h=>by
  constructor
  ·intro e;have:=Jp (h.low x aH) e;clear e h;refine dq this ?_;rfl
  ·intro e c b;have e:(decide (x=[])&&ai)&&ai=ai:=e;have:x=[]:=by simpa using e
   rw[this]at b;exact bJ b (bF)
 |x::a,t::ts,h=>by
  refine cV (vQ t (h.sig t aH)) λc b e l=>?_;have m:=TF a ts ⟨f_ h.len,λx q=>h.low x (aK _ q),λx q=>h.sig x (aK _ q)⟩;have f:nK (x::a,t::ts)=ai↔(x=[]/\t=6)/\nK (a,ts)=ai:=by
   unfold nK;simp only[jz,cB,dM];constructor
   ·rintro⟨⟨g,i⟩,j,k⟩;exact dy ⟨g,j⟩ i k
   ·rintro⟨⟨g,j⟩,i,k⟩;exact dy ⟨g,i⟩ j k
  rw[f,<-m];show(∀c∈x++(kU nt t++rd a ts),c=83)↔_;rw[e];constructor
  ·intro q;refine⟨⟨Jp (h.low x aH) λc b=>q c (kC _ b),l (q c (eA _ (aH)))⟩,λc b=>q c (eA _ (eA _ b))⟩
  ·rintro⟨⟨rfl,rfl⟩,q⟩ d hd;have e:=e;rcases b7.mp hd with hd|hd
   ·exact bJ hd bF
   ·rcases b7.mp hd with hd|hd
    ·have:[c]=[83]:=e.symm.trans rfl;rw[this]at hd;simpa using hd
    ·exact q d hd
 |[],_,h=>bJ h.len (pf _).symm
 |_::_::_,[],h=>bJ h.len (by simp)
theorem LB {p:Pc} (h:iD p):tV (k8 p)=ai↔p.2≠[]/\nK p=ai:=by
 rw[NW,<-TF p.1 p.2 h];refine and_congr_left λq=>?_;obtain⟨a,ts⟩:=p;constructor
 ·rintro e rfl;have b:=h.len;rcases a with _|⟨x,_|⟨y,a⟩⟩
  ·exact nomatch b
  ·exact e (Jp (h.low x aH) q)
  ·exact nomatch b
 ·intro e d;have b:=h.len;rcases ts with _|⟨t,ts⟩
  ·exact e rfl
  rcases a with _|⟨x,a⟩
  ·exact nomatch b
  ·refine cV (vQ t (h.sig t aH)) λc g f i=>?_;have d:x++(kU nt t++rd a ts)=[]:=d;rw[f]at d;simp at d
end
section
open PySem
def FS (r:Row):Prop:=(∃s,r=.s s 0)\/∃xs ts,r=.t xs ts
theorem iN {a b:AV} {as bs:ae AV} (h:iW (a::as) (b::bs)=ai):dO a b=ai/\iW as bs=ai:=by rw[<-cB];exact h
theorem HM:∀{a b:ae (ae af)},iW (a.map .s) (b.map .s)=ai->a=b
 |[],[],_=>rfl
 |x::a,y::b,h=>by refine dp (iN h) λc d=>?_;rw[bC c,HM d]
theorem CK:∀{a b:ae aq},iW (a.map .i) (b.map .i)=ai->a=b
 |[],[],_=>rfl
 |x::a,y::b,h=>by refine dp (iN h) λc d=>?_;rw[bC c,CK d]
variable {r:Row}
theorem NX {q:Row} (b:FS r) (h:dO (dA q) (dA r)=ai):q=r:=by
 have a:∀r:Row,∃vs,r.vs=.i (kd r)::vs:=λr=>by cases r<;>exact⟨_,rfl⟩
 have hk:kd q=kd r:=by refine ck (a q) λv1 c=>?_;refine ck (a r) λe d=>?_;have h:iW q.vs r.vs=ai:=h;rw[c,d]at h;exact bC (iN h).1
 rcases b with⟨s,rfl⟩|⟨xs,ts,rfl⟩
 ·induction q using kZ with|s s' f=>have h:=(iN h).2;rw[bC (iN h).1,bC (iN (iN h).2).1]|_=>exact bJ hk (by simp[kd])
 ·induction q using kZ with|t s' f=>have h:=(iN h).2;rw[HM (iN h).1,CK (iN (iN h).2).1]|_=>exact bJ hk (by simp[kd])
theorem Du {X:ae Row}:∀{T:ae Row} {k j:af},rfind T r k=aa j->rfind (T++X) r k=aa j
 |q::T,k,j,h=>by unfold rfind at h;show(bif dO (dA q) (dA r)then aa k else rfind (T++X) r (k+1))=_;cases e:dO (dA q) (dA r)with|true=>rw[e]at h;exact h|false=>rw[e]at h;exact Du h
theorem Dv:∀{T:ae Row} {k:af},rfind T r k=ah->rfind (T++[r]) r k=aa (k+(Wb T))
 |[],k,_=>by show(bif dO (dA r) (dA r)then aa k else _)=_;rw[Ft];rfl
 |q::T,k,h=>by unfold rfind at h;show(bif dO (dA q) (dA r)then aa k else rfind (T++[r]) r (k+1))=_;cases e:dO (dA q) (dA r)with|true=>rw[e]at h;cases h|false=>rw[e]at h;show rfind (T++[r]) r (k+1)=_;rw[Dv h,aQ];congr 1;exact aB #[19] #[20]
theorem z7:∀{T:ae Row} {k j:af},rfind T r k=aa j->k<=j/\∃q,T[j-k]?=aa q/\dO (dA q) (dA r)=ai
 |q::T,k,j,h=>by
  unfold rfind at h;cases e:dO (dA q) (dA r)with
  |true=>
   rw[e]at h;have h:=h;injection h with h
   refine dq h ?_;exact wj (bf _) q (by rw[iz];rfl) e
  |false=>rw[e]at h;refine uq (z7 h) λa p b c=>?_;refine wj #[9,a] p ?_ c;rw[show j-k=(j-(k+1))+1 by exact aB #[118,ag #[9,a],ag a] #[123,ag #[9,a],ag a]];exact b
theorem Jq (b:FS r) {T:ae Row} {j:af} (h:rfind T r 0=aa j):T[j]?=aa r:=by refine uq (z7 h) λd q a c=>?_;rw[t8]at a;rw[a,NX b c]
theorem wU (T:ae Row) (r:Row):∃X,(eZ T r).2=T++X/\X.length<=1/\rfind (T++X) r 0=aa (eZ T r).1:=by unfold eZ;cases h:rfind T r 0 with|some k=>exact dS ([]) ((aJ _).symm) (fO _) (by rw[aJ];exact h)|none=>exact dS ([r]) rfl (bf _) (by rw[Dv h,eQ])
noncomputable def qS (p:Pc):Row:=if p.2=[]then .s (p.1.headD []) 0 else .t p.1 p.2
def Dw (p:Pc):Prop:=p.2≠[]/\nK p=ai
theorem Dx (p:Pc):FS (qS p):=by
 unfold qS;split
 ·exact .inl ⟨_,rfl⟩
 ·exact .inr (lg _ _ rfl)
def qT (T:ae Row) (p:Pc) (i:aq):Prop:=(Dw p/\i=6)\/(¬Dw p/\∃k:af,i=k/\rfind T (qS p) 0=aa k)
theorem qT.app {T:ae Row} {p:Pc} {i:aq} (h:qT T p i) (X:ae Row):qT (T++X) p i:=by
 rcases h with h|⟨h,k,a,b⟩
 ·exact .inl h
 ·exact .inr (wj h k a (Du b))
theorem LD (T:ae Row) (p:Pc):∃X,(jS T p).2=T++X/\X.length<=1/\qT (T++X) p (jS T p).1:=by
 unfold jS;by_cases h:p.2=[]
 ·rw[aF h];refine cV (wU T (.s (p.1.headD []) 0)) λX a b c=>?_;exact dS X a b (.inr (wj (λq=>q.1 h) _ rfl (by unfold qS;rw[aF h];exact c)))
 ·rw[aG h];cases d:nK p with|true=>rw[aF rfl];exact dS ([]) ((aJ _).symm) (fO _) (.inl ⟨⟨h,d⟩,rfl⟩)|false=>rw[aG (by simp)];refine cV (wU T (.t p.1 p.2)) λX a b c=>?_;exact dS X a b (.inr (wj (λq=>Bool.noConfusion (d.symm.trans q.2)) _ rfl (by unfold qS;rw[aG h];exact c)))
abbrev qB (T:ae Row):ae Pc->ae aq->Prop:=NU (qT T)
theorem Dy:∀(J:ae Pc) (T:ae Row),∃X,(i8 T J).2=T++X/\X.length<=(Wb J)/\qB (T++X) J (i8 T J).1:=by
 intro a;induction a with
 |nil=>exactλT=>dS ([]) ((aJ _).symm) (bf _) rfl
 |cons p J b=>
  intro T;refine cV (LD T p) λX c e f=>?_;refine cV (b (jS T p).2) λY f1 f2 d=>?_;rw[c,aj]at f1 d;refine dS (X++Y) ?_ (by rw[ar,aQ];exact#[77,e,f2]) ?_
  ·show(i8 (jS T p).2 J).2=_;rw[c];exact f1
  ·show qB _ (p::J) ((jS T p).1::(i8 (jS T p).2 J).1);rw[c];refine fD _ _ rfl ?_ d;rw[<-aj];exact f.app Y
section
variable {T:ae Row} {J:ae Pc} {M:ae aq}
theorem qB.len (h:qB T J M):(Wb M)=(Wb J):=by induction J generalizing M with|nil=>refine dq (h:M=[]) ?_;rfl|cons p J b=>refine eV h ?_;clear h;intro i c e a r;refine dq e ?_;exact aU (·+1) (b r)
theorem qB.to {i:aq} (h:qB T J M) (b:i∈M):∃p∈J,qT T p i:=by induction J generalizing M with|nil=>obtain rfl:=(h:M=[]);exact(bF b).elim|cons p J c=>refine eV h ?_;clear h;intro k g e a r;obtain rfl:=e;refine(bw.mp b).elim (λh=>aY p aH (h▸a)) λh=>ba (c r h) λq d f=>aY q (aK _ d) f
theorem qB.of {p:Pc} (h:qB T J M) (b:p∈J):∃i∈M,qT T p i:=by induction J generalizing M with|nil=>exact(bF b).elim|cons q J c=>refine eV h ?_;clear h;intro k g e a r;refine dq e ?_;refine(bw.mp b).elim (λh=>aY k aH (h▸a)) λh=>ba (c r h) λi d f=>aY i (aK _ d) f
end
end
section
open PySem
section
variable {T:ae Row} {J:ae Pc} {M:ae aq} {W:ae (ae af)}
def kG (T:ae Row):Prop:=∀i:af,i<27->T[i]?=R0[i]?
theorem kG.app (h:kG T) (X:ae Row):kG (T++X):=λi a=>by
 have e:=h i a;have b:i<(Wb T):=by rw[aR (show i<R0.length from a)]at e;exact(aP.mp e).1
 rw[bM b];exact e
theorem kG.len (h:kG T):27<=(Wb T):=by have e:=h 26 #[0];have:=(aP.mp (e.trans (rfl:R0[26]?=aa _))).1;exact#["6TMr;1;8Q~ks?",this]
theorem kG.row (h:kG T) {i:af} (a:i<27):cL T i=cL R0 i:=by unfold cL;rw[cU,h i a]
def uM (c:af):Prop:=c∈[0,1,2,6,8,9,13,14,15]
theorem HN (h:kG T) {c:af} (a:uM c):∃q,T[c]?=aa q/\¬FS q/\∀ts,q≠.u ts:=by
 have no:∀q:Row,(∀s,q≠.s s 0)->(∀xs ts,q≠.t xs ts)->¬FS q:=λq b d h=>h.elim (λ⟨s,e⟩=>b s e) λ⟨xs,ts,e⟩=>d xs ts e;have f:c<27:=by unfold uM at a;simp only[bw,bF,jM]at a;omega
 rw[h c f];unfold uM at a;simp only[bw,bF,jM]at a;rcases a with rfl|rfl|rfl|rfl|rfl|rfl|rfl|rfl|rfl<;>exact dS _ rfl (no _ (by intros;exact Row.noConfusion) (by intros;exact Row.noConfusion)) (by intros;exact Row.noConfusion)
theorem nN (b:kG T) {p:Pc} {i:aq} (h:qT T p i):je T i/\((Dw p/\i=6)\/(¬Dw p/\cL T i=qS p/\∀c:af,uM c->i≠c)):=by
 rcases h with⟨a,rfl⟩|⟨a,k,rfl,d⟩
 ·exact⟨⟨by decide,by have:=b.len;exact#["Dtyg3Psa1gXC",this]⟩,.inl ⟨a,rfl⟩⟩
 ·have e:=Jq (Dx p) d;refine⟨⟨by omega,by rw[cU];exact(aP.mp e).1⟩,.inr (dy a (by unfold cL;rw[cU,e];rfl) (λc f hk=>?_))⟩;obtain rfl:k=c:=by omega
  refine cV (HN b f) λq g j l=>?_;rw[g]at e;injection e with e
  exact j (e▸Dx p)
set_option tactic.hygienic true in
theorem z8 (c:kG T) {p:Pc} {i:aq} (h:qT T p i):bQ T i=[i]:=by
 refine dp (nN c h) λd a=>?_;have b:i≠2:=by
  rcases a with⟨_,rfl⟩|⟨_,_,a⟩
  ·decide
  ·exact a 2 (by unfold uM;decide)
 unfold bQ;rw[aG b,d.at];rcases a with⟨_,rfl⟩|⟨_,a,_⟩
 ·rw[show cL T 6=cL R0 6 from c.row #[0]];rfl
 ·rw[a];unfold qS;split
  ·rename_i e;split at e<;>cases e
  ·rfl
theorem Dz (b:kG T) (h:qB T J M):M.flatMap (bQ T)=M:=by induction J generalizing M with|nil=>refine dq (h:M=[]) ?_;rfl|cons p J c=>refine eV h ?_;clear h;intro i d e a r;refine dq e ?_;rw[jx,z8 b a,c r];rfl
noncomputable abbrev lJ (M:ae aq):ae aq:=M.foldl ji []
theorem qU {i:aq}:i∈lJ M↔i∈M:=by rw[Ly];simp
theorem DA:(lJ M).Nodup:=GX M [] .nil
theorem vR (a:kG T) (h:qB T J M) {c:af} (b:uM c) (g:c≠6):((c):aq)∉lJ M:=λd=>by
 refine ba (h.to (qU.mp d)) λp i f=>?_;rcases(nN a f).2 with⟨_,e⟩|⟨_,_,e⟩
 ·omega
 ·exact e c b rfl
theorem NY (a:kG T) (h:qB T J M):pZ (lJ M)=-1:=by unfold pZ;have d:=vR a h (c:=0) (by unfold uM;decide) #[0];have b:(13:aq)∉lJ M:=vR a h (by unfold uM;decide) #[0];have e:=vR a h (c:=1) (by unfold uM;decide) #[0];rw[aG d,aG b,aG e]
theorem DB (a:kG T) (h:qB T J M):df (lJ M)=lJ M:=by unfold df;rw[aG (λe=>e.1.elim (vR a h (by unfold uM;decide) #[0]) (vR a h (by unfold uM;decide) #[0]))]
theorem Jr (b:kG T) (h:qB T J M) {i:aq} (d:i∈lJ M):kR T (lJ M) (cL T i)=(decide (i=6)||!decide ((6:aq)∈lJ M)):=by
 refine ba (h.to (qU.mp d)) λp f g=>?_;have a:(-1:aq)∉lJ M:=λa=>by refine ba (h.to (qU.mp a)) λq f j=>?_;have:=(nN b j).1.1;omega
 rw[sR];rcases(nN b g).2 with⟨_,rfl⟩|⟨_,e,l⟩
 ·rw[show cL T 6=.k [115,116,114,105,110,103]from b.row #[0]];rw[aX a];rfl
 ·rw[e,aX (l 6 (by unfold uM;decide))];have c:uG T (qS p)=-1/\xX (qS p)=6:=by unfold qS;split<;>exact⟨rfl,rfl⟩
  rw[c.1,c.2,aX a];rfl
theorem BE {a:aq}:∀{l:ae aq},l.Nodup->a∈l->l.filter (λx=>decide (x=a))=[a]
 |x::l,h,hm=>by
  rw[eW]at h;by_cases e:x=a
  ·clear hm;refine dH e ?_;rw[ui (by simp),List.filter_eq_nil_iff.mpr λy b=>by simp;rintro rfl;exact h.1 b]
  ·rw[uj (by simpa using e)];exact BE h.2 ((bw.mp hm).resolve_left (fR e))
theorem LF (b:kG T) (h:qB T J M):gH T (lJ M)=if 6∈lJ M then[6]else jj (lJ M):=by
 unfold gH;have e:(jj (lJ M)).filter (λq=>kR T (lJ M) (cL T q))=(jj (lJ M)).filter (λq=>decide (q=6)||!decide ((6)∈lJ M)):=
  y6 λq c=>Jr b h (qL.mp c)
 rw[e];by_cases a:6∈lJ M
 ·rw[aF a,aI a];rw[show(λq:aq=>decide (q=6)||!ai)=λq=>decide (q=6)from funext λq=>by simp];exact BE (AB DA) (qL.mpr a)
 ·rw[aG a,aX a];exact qD.mpr λq d=>by simp
theorem LG {q:Row} {ts:ae aq} (h:dO (dA q) (dA (.u ts))=ai):q=.u ts:=by
 have a:∀r:Row,∃vs,r.vs=.i (kd r)::vs:=λr=>by cases r<;>exact⟨_,rfl⟩
 have hk:kd q=6:=by refine ck (a q) λv1 b=>?_;have h:iW q.vs (Row.u ts).vs=ai:=h;rw[b]at h;exact bC (iN h).1
 induction q using kZ with|u us=>rw[CK (iN (iN h).2).1]|_=>exact bJ hk (by simp[kd])
theorem LH (T:ae Row) (ts:ae aq):∃Y,(eZ T (.u ts)).2=T++Y/\(Wb Y)<=1/\(T++Y)[(eZ T (.u ts)).1]?=aa (.u ts)/\∀r∈Y,r=.u ts:=by unfold eZ;cases h:rfind T (.u ts) 0 with|some k=>refine uq (z7 h) λd q b c=>?_;rw[t8,LG c]at b;exact kO ([]) ((aJ _).symm) (fO _) (by rw[aJ];exact b) (λr a=>bJ a bF)|none=>exact kO ([.u ts]) rfl (bf _) (mu ..) (λr a=>aL.mp a)
theorem GZ (d:kG T) {k:af} {ts:ae aq} (h:T[k]?=aa (.u ts)):bQ T k=ts/\je T k:=by
 have b:((k:af):aq)≠2:=λe=>by
  obtain rfl:k=2:=by omega
  refine cV (HN d (c:=2) (by unfold uM;decide)) λq a g f=>?_;rw[h]at a;injection a with a
  exact f ts a.symm
 unfold bQ;rw[aG b,cU,h];exact dy rfl (by omega) (by rw[cU];exact(aP.mp h).1)
theorem r6 (d:kG T) {K:ae aq} (a:∀q,K=[q]->bQ T q=[q]/\je T q):
  ∀u,u=(match K with|[]=>((2),T)|[x]=>(x,T)|_=>(((eZ T (.u K)).1:aq),(eZ T (.u K)).2))->∃Y,u.2=T++Y/\(Wb Y)<=1/\bQ u.2 u.1=K/\je u.2 u.1/\∀r∈Y,r=.u K:=by
 rintro u rfl
 match K,a with|[],_=>exact qI ([]) ((aJ _).symm) (fO _) rfl (⟨by decide,by have:=d.len;exact#["BEQ>l`Gb))78",this]⟩:je T 2) (λr b=>bJ b bF)|[x],a=>exact qI ([]) ((aJ _).symm) (fO _) ((a x rfl).1) ((a x rfl).2) (λr b=>bJ b bF)|x::y::K,_=>refine kn (LH T (x::y::K)) λY c e f h=>?_;have g:=GZ (d.app Y) f;exact qI Y c e (by rw[c];exact g.1) (by rw[c];exact g.2) h
theorem wV (a:kG T) (h:qB T J M):∃Y K,(cH T M).2=T++Y/\(Wb Y)<=1/\bQ (cH T M).2 (cH T M).1=K/\je (cH T M).2 (cH T M).1/\K.Nodup/\K.length<=(Wb M)/\
  ((6∈M/\K=[6])\/(6∉M/\∀i,i∈K↔i∈M)):=by
 have o:iL T M=lJ M:=by unfold iL;rw[Dz a h]
 have c:cH T M=(match gH T (lJ M)with|[]=>((2),T)|[x]=>(x,T)|_=>(((eZ T (.u (gH T (lJ M)))).1:aq),(eZ T (.u (gH T (lJ M)))).2)):=by
  unfold cH;rw[o,NY a h,aG #[0],DB a h]
  first|done|(split<;>simp_all)
 have d:(lJ M).length<=(Wb M):=by have:=wO M [];simpa using this
 rw[LF a h]at c;by_cases g:6∈lJ M
 ·rw[aF g]at c;have b:=qU.mp g;refine ba (h.to b) λp n f=>?_;refine vo (r6 a (K:=[6]) (λq e=>by cases e;exact⟨z8 a f,(nN a f).1⟩) _ c) λY j k l m n=>?_;exact⟨Y,[6],j,k,l,m,dJ _ _,List.length_pos_of_mem b,.inl ⟨b,rfl⟩⟩
 ·rw[aG g]at c;refine vo (r6 a (λq e=>by
   obtain⟨p,_,f⟩:=h.to (qU.mp (qL.mp (e▸aL.mpr rfl:q∈jj (lJ M))));exact⟨z8 a f,(nN a f).1⟩) _ c) λY j k l m n=>?_
  exact⟨Y,_,j,k,l,m,AB DA,by rw[wm];exact d,.inr ⟨λq=>g (qU.mpr q),λi=>by rw[qL,qU]⟩⟩
end
section
variable {T:ae Row} {J:ae Pc} {M:ae aq} {W:ae (ae af)}
theorem yR (c:kG T) {p:Pc} {i:aq} (h:qT T p i) (b:iD p) (d:¬Dw p):gJ T nt i=k8 p:=by
 rcases(nN c h).2 with⟨e,_⟩|⟨_,e,_⟩
 ·exact bJ e d
 ·unfold gJ;rw[e];unfold qS;by_cases h2:p.2=[]
  ·rw[aF h2];show p.1.headD []++[]=rd p.1 p.2;rw[aJ,h2];obtain⟨a,ts⟩:=p
   match a,b.len with|x::_,_=>rfl
  ·rw[aG h2];show(if p.1.length=p.2.length+1 then _ else _)=_;rw[aF b.len,NT b]
theorem NZ (a:kG T):gJ T nt 6=[83]:=by unfold gJ;rw[show cL T 6=.k [115,116,114,105,110,103]from a.row #[0]];rfl
theorem TG {p q:Pc} {i j:aq} (e:qT T p i) (f:qT T q j) (h:p=q):i=j:=by
 subst h;rcases e with⟨a,rfl⟩|⟨a,k,rfl,b⟩<;>rcases f with⟨c,rfl⟩|⟨c,l,rfl,d⟩
 ·rfl
 ·exact bJ a c
 ·exact bJ c a
 ·rw[b]at d;injection d with d;rw[d]
theorem N0 (v:kG T) (h:qB T J M) (f:∀o∈J,iD o) (t:∀w,w∈J.map k8↔w∈W):fF gj ((bQ (cH T M).2 (cH T M).1).map (gJ (cH T M).2 nt))=CF W:=by
 refine wi (wV v h) λY K E C F C G C H=>?_;rw[F,E];have b:=v.app Y;have g:W.any tV=ai↔∃p∈J,Dw p:=by
  rw[An];constructor
  ·intro k;obtain⟨w,I,l⟩:=k;refine ba (bT.mp ((t w).mpr I)) λp a m=>?_;obtain rfl:=m;exact aY p a ((LB (f p a)).mp l)
  ·intro k;obtain⟨p,a,l⟩:=k;exact aY (k8 p) ((t _).mp (iw a)) ((LB (f p a)).mpr l)
 have six:6∈M↔∃p∈J,Dw p:=by
  constructor
  ·intro r;refine ba (h.to r) λp a c=>?_;rcases(nN v c).2 with⟨e,_⟩|⟨_,_,e⟩
   ·exact aY p a e
   ·exact bJ rfl (e 6 (by unfold uM;decide))
  ·intro k;obtain⟨p,a,l⟩:=k;refine ba (h.of a) λi c y=>?_;rcases y with⟨_,rfl⟩|⟨n,_⟩
   ·exact c
   ·exact bJ l n
 unfold CF;rcases H with⟨r,rfl⟩|⟨r,u⟩
 ·rw[aF (g.mpr (six.mp r))];show fF gj [gJ (T++Y) nt 6]=_;rw[NZ b];rfl
 ·rw[aG (λq=>r (six.mpr (g.mp q)))];have d:∀{p},p∈J->¬Dw p:=λa l=>r (six.mpr (aY _ a l));refine JF Pu ?_ (GW W [] .nil) λx=>?_
  ·refine l5.mpr (List.Pairwise.imp_of_mem (λ{i j} c L z=>?_) G);refine ba (h.to ((u i).mp c)) λp a s=>?_;refine ba (h.to ((u j).mp L)) λq A D=>?_;rw[yR b (s.app Y) (f p a) (d a),yR b (D.app Y) (f q A) (d A)];exactλe=>z (TG s D (NV (f p a) (f q A) e))
  ·rw[Lw,bT];constructor
   ·intro k;obtain⟨i,c,rfl⟩:=k;refine ba (h.to ((u i).mp c)) λp a s=>?_;rw[yR b (s.app Y) (f p a) (d a)];exact .inr ((t _).mp (iw a))
   ·intro B;have B:=B.resolve_left bF;refine ba (bT.mp ((t _).mpr B)) λp a m=>?_;refine dH m ?_;refine ba (h.of a) λi c s=>?_;exact aY i ((u i).mpr c) (yR b (s.app Y) (f p a) (d a))
structure tY (p:Pc):Prop where
 ts:p.2.length<=7
 wt:wt p<=400
theorem HO {x:ae af}:∀{a:ae (ae af)},x∈a->(Wb x)<=pF a
 |y::a,h=>by
  rw[lQ];rcases bw.mp h with rfl|h
  ·exact#[64]
  ·have:=HO h;exact#["9DFczbL(>q",this]
theorem tY.x {p:Pc} (h:tY p) {x:ae af} (a:x∈p.1):(Wb x)<=400:=by have:=HO a;have:=h.wt;exact#["Y(IaZ(uL$W=N{hg`xQ&>c",(by assumption),this]
set_option tactic.hygienic true in
theorem LI (d:kG T) {p:Pc} {i:aq} (h:qT T p i) (f:iD p) (b:tY p):vP T i:=by
 refine dp (nN d h) λg j=>?_;refine⟨g,?_⟩;rcases j with⟨_,rfl⟩|⟨_,e,_⟩
 ·rw[show cL T 6=.k [115,116,114,105,110,103]from d.row #[0]];trivial
 ·rw[e];unfold qS;split
  ·rename_i c
   split at c<;>cases c;refine dy ?_ #[0] #[0];clear h;obtain⟨a,ts⟩:=p
   match a,f.len,b with|x::_,_,b=>have:=b.x aH;exact#["1D;ounv%!G3OGtXm",this]
  ·rename_i c
   split at c<;>cases c;exact dy (by have:=b.ts;exact#["E5$>~LQmUk",this]) f.len (λx l=>by have:=b.x l;exact#[155,this])
  ·trivial
set_option tactic.hygienic true in
theorem N1 (a:kG T) (h:qB T J M) (g:∀o∈J,iD o/\tY o) {q:aq} (c:q∈bQ (cH T M).2 (cH T M).1):
  vP (cH T M).2 q/\(kd (cL (cH T M).2 q)=18->∃p∈J,cL (cH T M).2 q=.t p.1 p.2):=by
 refine wi (wV a h) λY K i d j d d d l=>?_;rw[j]at c;have m:q∈M:=by
  rcases l with⟨n,rfl⟩|⟨_,r⟩
  ·rw[aL.mp c];exact n
  ·exact(r q).mp c
 refine ba (h.to m) λp f b=>?_;have b:=b.app Y;rw[i];refine⟨LI (a.app Y) b (g p f).1 (g p f).2,λhk=>aY p f ?_⟩;rcases(nN (a.app Y) b).2 with⟨_,rfl⟩|⟨_,e,_⟩
 ·rw[show cL (T++Y) 6=.k [115,116,114,105,110,103]from(a.app Y).row #[0]]at hk;cases hk
 ·rw[e]at hk⊢;unfold qS at hk⊢;split
  ·rename_i h2;rw[aF h2]at hk;cases hk
  ·rfl
theorem LJ (b:kG T) (h:qB T J M) (g:(Wb T)<=10000) (c:(Wb J)<=200):oP T M:=by
 have d:=Dz b h;have e:=h.len;have a:∀t∈M,je T t:=λt i=>by refine ba (h.to i) λp m j=>?_;exact(nN b j).1
 refine⟨a,by rw[d];exact a,#[132,g],by have:=b.len;exact#[174,this],by rw[d];exact#["L8b{`uhHpXrO4Y9pkC",c,e],#["zMXj'v,Yz`%LwUyB}I0",c,e],?_⟩;have k:iL T M=lJ M:=by unfold iL;rw[d]
 rw[k,DB b h];have f:=we (λq=>kR T (lJ M) (cL T q)) (jj (lJ M));rw[wm]at f;have l:=wO M [];have:([]:ae aq).length=0:=rfl;exact#["v}xxEwtG|ct<Jf9$NLaR~$)?tVJ6Pc'",c,e,f,l,this]
theorem ze {T:ae Row}:∀{ts:ae aq} {xs:ae (ae af)} {J J':ae Pc} (a b:af),(∀t∈ts,∀q∈cu T t,q.1≠[]/\q.2.length<=2/\wt q<=30)->(∀x∈xs,(Wb x)<=10)->(∀o∈J,o.1≠[]/\o.2.length<=a/\wt o<=b)->kS T J ts xs=aa J'->∀o∈J',o.1≠[]/\o.2.length<=a+2*(Wb ts)/\wt o<=b+40*(Wb ts)
 |[],xs,J,J',a,b,_,_,d,h,o,c=>by
  have h:=h;injection h with h
  subst h;exact d o c
 |t::ts,x::xs,J,J',a,b,f,hx,d,h,o,c=>by
  have h:(if 200<(Wb J)*(cu T t).length then ah else kS T (lH J (cu T t) x) ts xs)=aa J':=h;split at h
  ·cases h
  ·have:=ze (a+2) (b+40) (λt h=>f t (aK _ h)) (λx h=>hx x (aK _ h)) (λo c=>by
    refine ba (gT.mp c) λp g c=>?_;refine ba (bT.mp c) λq i e=>?_;clear c;refine dH e ?_;refine iK (d p g) λp1 j k=>?_;refine iK (f t aH q i) λq1 l m=>?_;have w:=Hz (x:=x) p1 q1;have:=hx x aH;refine dy (tS _ _) ?_ #["2Fi5C`zK^5h7^4b_V?k}p3MpP?7POM78",k,m,w,this];rw[ar];exact#["6<eOOmr)&T`I=C9_",j,l]) h o c
   rw[aQ];exact dy this.1 #["3}$<MhP,q~$=;T9`%E$K",this.2.1] #["2cL4lDvoKTn2svhYu'mP*}Gk",this.2.2]
end
end
section
open PySem
noncomputable def qC (l:ae aq):ae aq:=if 0<=pZ (iL R0 l)then[pZ (iL R0 l)]else gH R0 (df (iL R0 l))
noncomputable abbrev BF:ae aq:=[17,18,19,20,21,22,23,25,26,8,9,4,5,0,6,7,16,24]
noncomputable def BG (p:Pc):bD:=decide (p.1.length=p.2.length+1)&&p.1.all (λx=>x.all λc=>!decide (c∈x8))&&p.2.all (λt=>decide (t∈FQ))&&decide (p.2.length<=2)&&decide (wt p<=30)
theorem DC {p:Pc} (h:BG p=ai):iD p/\p.1≠[]/\p.2.length<=2/\wt p<=30:=by unfold BG at h;simp only[cB,dM,cy,el,fw]at h;refine dp h ?_;clear h;intro a c;obtain⟨⟨⟨b,d⟩,f⟩,g⟩:=a;exact jB ⟨b,d,f⟩ (λe=>bJ (b.symm.trans (aU fu e)) (pf _)) g c
noncomputable def LK (ds:ae Sk):bD:=
 (ds.all λd=>decide (0<=d.ty)&&decide (d.ty<27)&&(bQ R0 d.ty).all λq=>decide (0<=q)&&decide (q<27))&&(df (iL R0 (ds.map Sk.ty))).all (λq=>decide (0<=q)&&decide (q<27))&&(qC (ds.map Sk.ty)).all (λq=>decide (q∈BF))&&
 (match qC (ds.map Sk.ty)with|[q]=>decide (bQ R0 q=[q])|_=>ai)&&((qC (ds.map Sk.ty)).map (iS R0)).all BG&&decide (fF gj (((qC (ds.map Sk.ty)).map (iS R0)).map k8)=nq uL ds)&&
 decide ((qC (ds.map Sk.ty)).length<=10)&&decide (((ds.map Sk.ty).flatMap (bQ R0)).length<=10)&&(nq uL ds).all (λw=>decide ((Wb w)<=1000))
theorem Rc:Dn.all (λa=>LK [a]&&Dn.all λb=>LK [a,b])=ai:=by decide+kernel
theorem LL {ds:ae Sk} (h:x6 ds):LK ds=ai:=by
 obtain⟨e,f,d⟩:=h;have h:=cy.mp Rc;rcases ds with _|⟨a,_|⟨b,_|⟨c,ds⟩⟩⟩
 ·exact(e rfl).elim
 ·have:=h a (d a aH);rw[cB]at this;exact this.1
 ·have:=h a (d a aH);rw[cB]at this;exact cy.mp this.2 b (d b (aK _ aH))
 ·exact bJ f (by simp)
theorem FT:∀q∈BF,rK R0 q:=by
 have id:∀q∈BF,je R0 q:=by unfold je;decide+kernel
 have b:∀q∈BF,∀m f,cL R0 q=.n m f->cP m=ai:=by
  repeat(refine CG (λm f e=>by first|(cases(show Row.n 0 0=Row.n m f from e);rfl)|(cases(show Row.n (-7) 1=Row.n m f from e);rfl)|cases e) ?_)
  exactλq h=>(bF h).elim
 have c:∀q∈BF,sS (cL R0 q) q=ah->(∃xs ts,cL R0 q=.t xs ts)\/((∀xs ts,cL R0 q≠.t xs ts)/\(q=6\/q=7\/q=0\/((kd (cL R0 q)=10\/kd (cL R0 q)=14)/\q≠6/\q≠7/\q≠0))):=by
  repeat(refine CG (λe=>by first|exact(nomatch (show aa _=ah from e))|exact .inl (lg _ _ rfl)|exact .inr ⟨λxs ts=>Row.noConfusion,by decide⟩) ?_)
  exactλq h=>(bF h).elim
 exactλq a=>⟨id q a,b q a,c q a⟩
def zf (T:ae Row):Prop:=∃U,T=R0++U/\∀r∈U,kd r=6
variable {T:ae Row} {r:Row}
theorem Rd {q:Row} (h:dO (dA q) (dA r)=ai):kd q=kd r:=by
 have a:∀r:Row,∃vs,r.vs=.i (kd r)::vs:=λr=>by cases r<;>exact⟨_,rfl⟩
 refine ck (a q) λv1 b=>?_;refine ck (a r) λd c=>?_;have h:iW q.vs r.vs=ai:=h;rw[b,c]at h;exact bC (iN h).1
theorem BH (a:kd r≠6):∀{U:ae Row} {k:af},(∀q∈U,kd q=6)->rfind U r k=ah
 |[],_,_=>rfl
 |q::U,k,h=>by unfold rfind;cases e:dO (dA q) (dA r)with|true=>exact bJ ((Rd e).symm.trans (h q aH)) a|false=>exact BH a λq b=>h q (aK _ b)
theorem LM (c:kd r≠6) {U:ae Row} (d:∀q∈U,kd q=6):∀(T:ae Row) (k:af),rfind (T++U) r k=rfind T r k:=by intro a;induction a with|nil=>exactλk=>BH c d|cons q T b=>intro k;show(bif dO (dA q) (dA r)then aa k else rfind (T++U) r (k+1))=(bif dO (dA q) (dA r)then aa k else rfind T r (k+1));rw[b]
theorem N2 (h:zf T) r:uG T r=uG R0 r:=by
 refine ba h ?_;clear h;intro U a b;refine dq a ?_;have f:∀r:Row,kd r≠6->oj (R0++U) r=oj R0 r:=λr c=>by unfold oj;rw[LM c b]
 cases r<;>first|rfl|(show(if _ then oj _ _ else _)=(if _ then oj _ _ else _);rw[f _ (by simp[kd])])
theorem zf.pre (h:zf T):kG T:=by refine ba h ?_;clear h;intro U a _;refine dq a ?_;exactλi b=>bM b
theorem qV (h:kG T) {q:aq} (b:0<=q) (c:q<27):cL T q=cL R0 q/\bQ T q=bQ R0 q/\je T q:=by refine ck (⟨q.toNat,by omega⟩:∃i:af,q=i) λi a=>?_;refine dq a ?_;refine jB (h.row (by omega)) ?_ (by omega) (by have:=h.len;omega);unfold bQ;rw[cU,h i (by omega)]
theorem LN (h:kG T) {q:aq} (a:0<=q) (b:q<27):iS T q=iS R0 q:=by unfold iS;rw[(qV h a b).1]
theorem N3 (h:zf T) {l:ae aq} (a:∀q∈l,0<=q/\q<27):gH T l=gH R0 l:=by refine y6 λq b=>?_;have:=a q (qL.mp b);rw[(qV h.pre this.1 this.2).1];rw[sR,sR,N2 h]
theorem BI (h:zf T) (z:(Wb T)<=5000) {ds:ae Sk} (hd:x6 ds):oP T (ds.map Sk.ty)/\zf (cH T (ds.map Sk.ty)).2/\(∃Y,(cH T (ds.map Sk.ty)).2=T++Y/\(Wb Y)<=1)/\je (cH T (ds.map Sk.ty)).2 (cH T (ds.map Sk.ty)).1/\bQ (cH T (ds.map Sk.ty)).2 (cH T (ds.map Sk.ty)).1=qC (ds.map Sk.ty):=by
 have j:=LL hd;unfold LK at j;simp only[cB,cy,dM]at j;refine dp j ?_;clear j;intro c _;obtain⟨⟨⟨⟨⟨⟨⟨A,B⟩,p⟩,s⟩,M⟩,N⟩,O⟩,v⟩:=c;have ty:∀t∈ds.map Sk.ty,(0<=t/\t<27)/\∀q∈bQ R0 t,0<=q/\q<27:=λt b=>by refine ba (bT.mp b) λd hd c=>?_;clear b;refine dH c ?_;exact A d hd
 have C:=λt b=>(qV h.pre (ty t b).1.1 (ty t b).1.2).2.1;have fl:(ds.map Sk.ty).flatMap (bQ T)=(ds.map Sk.ty).flatMap (bQ R0):=by
  have:∀l:ae aq,(∀t∈l,bQ T t=bQ R0 t)->l.flatMap (bQ T)=l.flatMap (bQ R0):=λl=>by
   induction l with
   |nil=>exactλP=>rfl
   |cons a l D=>exactλh=>by rw[jx,jx,h a aH,D λt b=>h t (aK _ b)]
  exact this _ C
 have k:iL T (ds.map Sk.ty)=iL R0 (ds.map Sk.ty):=by unfold iL;rw[fl]
 have hk:gH T (df (iL T (ds.map Sk.ty)))=gH R0 (df (iL R0 (ds.map Sk.ty))):=by rw[k];exact N3 h B
 have dl:(ds.map Sk.ty).length<=2:=by rw[az];exact hd.2.1
 have g:oP T (ds.map Sk.ty):=by
  refine⟨λt b=>(qV h.pre (ty t b).1.1 (ty t b).1.2).2.2,λq f=>?_,#["1D;ounv%!SLJKADi",z],by have:=h.pre.len;exact#[174,this],by rw[fl];exact#["u63Z=U>Ic!",v],#["1=*Ii<gIm:vO",dl],?_⟩
  ·rw[fl]at f;refine ba (gT.mp f) λt b f=>?_;exact(qV h.pre ((ty t b).2 q f).1 ((ty t b).2 q f).2).2.2
  ·rw[hk];have w:=we (λq=>kR R0 (df (iL R0 (ds.map Sk.ty))) (cL R0 q)) (jj (df (iL R0 (ds.map Sk.ty))));rw[wm]at w;have E:=Fv (iL R0 (ds.map Sk.ty));have F:=wO ((ds.map Sk.ty).flatMap (bQ R0)) [];have:([]:ae aq).length=0:=rfl;exact#["D7kE1bW*AAK^g,GZ8q51+>Kl^Q*h4",v,w,E,F,this]
 refine⟨g,?_⟩;have i:∀q,qC (ds.map Sk.ty)=[q]->bQ T q=[q]/\je T q:=λq e=>by
  rw[e]at p s;have f:=FT q (p q aH);have m:q<27:=by have:=f.1.2;have Q:=f.1.1;have:q.toNat<27:=this;omega
  have:=qV h.pre f.1.1 m;exact⟨by rw[this.2.1];exact bC s,this.2.2⟩
 refine ba (id h) λU c G=>?_;obtain rfl:=c;by_cases b:0<=pZ (iL R0 (ds.map Sk.ty))
 ·have n:cH (R0++U) (ds.map Sk.ty)=(pZ (iL R0 (ds.map Sk.ty)),R0++U):=by unfold cH;rw[k,aF b]
  have e:qC (ds.map Sk.ty)=[pZ (iL R0 (ds.map Sk.ty))]:=by unfold qC;rw[aF b]
  refine dp (i _ e) λp1 H=>?_;rw[n,e];exact jB h (aY ([]) ((aJ _).symm) (fO _)) H p1
 ·have e:qC (ds.map Sk.ty)=gH R0 (df (iL R0 (ds.map Sk.ty))):=by unfold qC;rw[aG b]
  have n:cH (R0++U) (ds.map Sk.ty)=(match qC (ds.map Sk.ty)with|[]=>((2),R0++U)|[x]=>(x,R0++U)|_=>(((eZ (R0++U) (.u (qC (ds.map Sk.ty)))).1:aq),(eZ (R0++U) (.u (qC (ds.map Sk.ty)))).2)):=by
   unfold cH;rw[hk,k,aG b,e]
   first|done|(split<;>simp_all)
  refine vo (r6 h.pre i _ n) λY y I J K L=>?_;refine jB (aY (U++Y) (by rw[y,aj]) (λr o=>(b7.mp o).elim (G r) λo=>by rw[L r o];rfl)) (aY Y y I) K J
theorem Js (h:kG T) {ds:ae Sk} (hd:x6 ds) {t:aq} (k:je T t) (d:bQ T t=qC (ds.map Sk.ty)):rM T t/\Jo T t (nq uL ds)/\(∀q∈cu T t,q.1≠[]/\q.2.length<=2/\wt q<=30)/\(nq uL ds).length<=1000/\∀w∈nq uL ds,(Wb w)<=1000:=by
 have c:=LL hd;unfold LK at c;simp only[cB,cy,dM]at c;refine dp c ?_;clear c;intro e l;obtain⟨⟨⟨⟨⟨⟨⟨_,_⟩,m⟩,_⟩,n⟩,g⟩,i⟩,_⟩:=e;have part:∀q∈qC (ds.map Sk.ty),rK R0 q/\0<=q/\q<27:=λq a=>by have a:=FT q (m q a);exact dy a a.1.1 (by have:=a.1.2;have u:=a.1.1;have:q.toNat<27:=this;omega)
 have f:cu T t=(qC (ds.map Sk.ty)).map (iS R0):=by unfold cu;rw[d];exact ng λq a=>LN h (part q a).2.1 (part q a).2.2
 have b:=λq a=>DC (n q (f▸a));have j:(nq uL ds).length=(qC (ds.map Sk.ty)).length:=by rw[<-g,wm,az,az]
 refine Au ⟨k,λq a=>?_,by rw[d];exact#["1s6sbwkX~sI",i],λq a=>⟨(b q a).2.1,by have:=(b q a).2.2.2;exact#[156,this]⟩⟩ ⟨λq a=>(b q a).1,λw=>?_,by rw[j,f,az]⟩ (λq a=>(b q a).2) #["~^q+(vs6x;!~Pw",i,j] l
 ·rw[d]at a;refine iK (part q a) λp1 o p=>?_;refine iK (qV h o p) λr v s=>?_;unfold rK at p1⊢;rw[r];exact⟨s,p1.2⟩
 ·rw[f,<-g,qL]
end
section
open PySem
section
variable {X G Y Z S:St} {nu:ae aq} {C:aq} {n a:af} {σ:St} {I:ae aq} {fr:AF} {ns:ae aq} {T:ae Row} {J:ae (ae af)} {U:ae af} {cs:ae (aC×af)}
noncomputable def i9:ae Row->af->af->ae aq×ae Row
 |T,_,0=>([],T)
 |T,k,m+1=>(((eZ T (.n (k:af) 0)).1:aq)::(i9 (eZ T (.n (k:af) 0)).2 (k+1) m).1,(i9 (eZ T (.n (k:af) 0)).2 (k+1) m).2)
theorem Rf (all:ae AV):∀(m k:af) (T:ae Row) (acc:ae aq),(Wb T)+m<=100000->(Wb acc)+m<=1000->
  fp ah all (oN PR (n+60) dP "n" (.f (.g "num_type") [.c "tab",.v "n"]) ((Wb G)+0+17)) (dr k m) (bz nu C T++(G++[.l (acc.map .i)]))=.k () (bz nu C (i9 T k m).2++(G++[.l ((acc++(i9 T k m).1).map .i)])):=by
 intro b;induction b with
 |zero=>intro k T acc _ _;show R.k () _=R.k () (bz nu C T++(G++[.l ((acc++[]).map .i)]));rw[aJ]
 |succ m d=>
  intro k T acc e a;have j:=GO (n:=n+18) (I:=nu) (C:=C) (G:=G++[.l (acc.map .i)]) k #[17,e];have o:bg PR (n+60) ⟨[("n",.i k)],dP⟩ (.f (.g "num_type") [.c "tab",.v "n"]) (bz nu C T++(G++[.l (acc.map .i)]))=.k (.i ((eZ T (.n k 0)).1:af)) (bz nu C (eZ T (.n k 0)).2++(G++[.l (acc.map .i)])):=
   bU (cC IX) (aS (gW rfl) (aS (aO rfl) bu)) (jX j)
  have p:=CE T (.n k 0);have h:=d (k+1) (eZ T (.n k 0)).2 (acc++[((eZ T (.n k 0)).1:aq)]) #[31,e,p] (by rw[ar,bj];exact#[33,a]);rw[aj acc]at h;have p1:=Eb (J:=nu) (I:=C) (T:=(eZ T (.n (k:af) 0)).2) (G:=G) (k:=0) (X:=[.l (acc.map .i)]) rfl (by rw[az];exact#[34,a]) (.i ((eZ T (.n k 0)).1:af));show(if dU ah all _=ai then(oN _ _ _ _ _ _ _ _).bind _ else _)=_;rw[aF (show dU ah all _=ai from rfl)];show(R.bind ((bg PR (n+60) _ _ _).bind _) _:R dt)=_;rw[o];show(li _ _ _).bind _=_;rw[p1,show([AO.l (acc.map .i)]:St).set 0 (.l (acc.map .i++[.i ((eZ T (.n k 0)).1:af)]))=[AO.l ((acc++[((eZ T (.n k 0)).1:aq)]).map .i)]by rw[dh];rfl];exact h
noncomputable def jT:af->af->ae (ae af)
 |_,0=>[]
 |k,m+1=>gm (k:af)::jT (k+1) m
theorem Rg (all:ae AV):∀(m k:af) (acc:ae (ae af)),k+m<=1000->(Wb acc)+m<=1000->
  fp ah all (oN PR (n+60) cs "n" (.f (.g "str") [.v "n"]) S.length) (dr k m) (S++[.l (acc.map .s)])=.k () (S++[.l ((acc++jT k m).map .s)]):=by
 intro b;induction b with
 |zero=>intro k acc _ _;show R.k () _=R.k () (S++[.l ((acc++[]).map .s)]);rw[aJ]
 |succ m c=>
  intro k acc hk a;have e:bg PR (n+60) ⟨[("n",.i k)],cs⟩ (.f (.g "str") [.v "n"]) (S++[.l (acc.map .s)])=.k (.s (gm k)) (S++[.l (acc.map .s)]):=
   bU (cC Pa) (aS (aO rfl) bu) (nF (xZ (c_ #[34,hk])))
  have d:=c (k+1) (acc++[gm k]) #[33,hk] (by rw[ar,bj];exact#[33,a]);rw[aj acc]at d;show(if dU ah all _=ai then(oN _ _ _ _ _ _ _ _).bind _ else _)=_;rw[aF (show dU ah all _=ai from rfl)];show(R.bind ((bg PR (n+60) _ _ _).bind _) _:R dt)=_;rw[e];show(li _ _ _).bind _=_;rw[zU (by rw[az];exact#[34,a]),show acc.map AV.s++[.s (gm k)]=(acc++[gm k]).map .s by rw[dh];rfl];exact d
noncomputable abbrev FU:ae IS:=[.e (.h (.v "types") "append" [.f (.g "union") [.c "tab",.k (.f (.g "num_type") [.c "tab",.v "n"]) "n" (.f (.g "range") [.v "size"]) ah]]),
 .e (.h (.v "holes") "append" [.k (.f (.g "str") [.v "n"]) "n" (.f (.g "range") [.v "size"]) ah]),
 .e (.h (.v "texts") "append" [.u (.f (.g "_law_texts") []) (.f (.v "take") [lI 7])])]
noncomputable def p7 (T:ae Row) (z:af):aq×ae Row:=cH (i9 T 0 z).2 (i9 T 0 z).1
theorem Rh {vars:ae (aC×AV)} {z:af} (H:0<(Wb ns)) (K:(Wb ns)<=1000) (Z:a<=8000) (F:LV vars) (w:vars.lookup "size"=aa (.i (z:af))) (t:z<=900) (L:(Wb T)<=10000) (M:(Wb I)<=100) (O:(Wb U)<=100) (P:(Wb J)<=100) (d:oP (i9 T 0 z).2 (i9 T 0 z).1):
  ∃(X:St) (p:af) (x:ae af),x∈gf/\
   dw PR (n+210) FU ⟨vars,dP⟩ (bz ns (a:af) T++GL J I U Y)=.k (.n,⟨vars,dP⟩) (bz ns ((a+1:af):aq) (p7 T z).2++GL (J++[x]) (I++[(p7 T z).1]) (U++[p+42]) (Y++X))/\(Y++X)[p]?=aa (.l ((jT 0 z).map .s)):=by
 have A:∀(m:af) (σ:St),bg PR (m+5) ⟨vars,dP⟩ (.f (.g "range") [.v "size"]) σ=.k (.r 0 (z:af)) σ:=λm σ=>bU (cC mV) (aS (aO w) bu) (nF (mE (c_ #[139,t])));have B:∀σ:St,items (.r 0 (z:af)) σ=aa (dr 0 z,ah):=λσ=>by rw[kE #[0] (c_ #[75,t]) (by omega),nJ]
 have L1:=Rf (n:=n+142) (nu:=ns) (C:=(a:af)) (G:=GL J I U Y) (dr 0 z) z 0 T [] #["5Hc3V,FWuO.|=GWUa<$Ah2{JQ",t,L] (by show 0+z<=1000;exact#["B>A0$M=`,fznq_(G",t]);rw[eF]at L1;refine ck (zQ (n:=n+104) (I:=ns) (C:=(a:af)) (p:=(GL J I U Y).length) jf d.ids d.parts d.len d.ten d.flat d.num d.kept) λj o=>?_;have y:bg PR (n+203) ⟨vars,dP⟩ (.k (.f (.g "num_type") [.c "tab",.v "n"]) "n" (.f (.g "range") [.v "size"]) ah) (bz ns a T++GL J I U Y)=.k (.l ((GL J I U Y).length+17)) (bz ns a (i9 T 0 z).2++(GL J I U Y++[.l ((i9 T 0 z).1.map .i)])):=
  Fi (A (n+197) _) (B _) jH (aj _ _ _) L1
 have Q:p7 T z=cH (i9 T 0 z).2 (i9 T 0 z).1:=rfl;rw[<-Q]at o;generalize p7 T z=u at o;generalize i9 T 0 z=N at y o;rw[mQ,mQ]at o;rw[mQ]at y;have D:cS PR (n+209) (.e (.h (.v "types") "append" [.f (.g "union") [.c "tab",.k (.f (.g "num_type") [.c "tab",.v "n"]) "n" (.f (.g "range") [.v "size"]) ah]])) ⟨vars,dP⟩ (bz ns a T++GL J I U Y)=.k (.n,⟨vars,dP⟩) (bz ns a u.2++GL J (I++[u.1]) U (Y++[.l (N.1.map .i)]++j)):=
  mC (mD (aO F.types) rfl (aS (bU (cC Cw) (aS (gW rfl) (aS y bu)) (jX o)) bu) (Do (by omega)))
 generalize q:Y++[AO.l (N.1.map .i)]++j=b at D;have L2:=Rg (n:=n+144) (cs:=dP) (S:=bz ns (a:af) u.2++GL J (I++[u.1]) U b) (dr 0 z) z 0 [] (by omega) (by show 0+z<=1000;omega);rw[eF]at L2;have R:bg PR (n+205) ⟨vars,dP⟩ (.k (.f (.g "str") [.v "n"]) "n" (.f (.g "range") [.v "size"]) ah) (bz ns a u.2++GL J (I++[u.1]) U b)=.k (.l ((Wb b)+42)) (bz ns a u.2++GL J (I++[u.1]) U (b++[.l ((jT 0 z).map .s)])):=by have e:=Fi (A (n+199) _) (B _) rfl rfl L2;rw[jH,Lu,aj,mQ]at e;exact e
 refine ba (vO (n:=n+154) (G:=GL J (I++[u.1]) (U++[(Wb b)+42]) (b++[.l ((jT 0 z).map .s)])) (T:=u.2) (J:=⟨vars,dP⟩) (a:=a) H K (by omega) #[0] rfl #[0] vc (λV V=>zT) F.take) λx W E=>?_;rw[mQ]at E;refine l7 ([.l (N.1.map .i)]++j++[.l ((jT 0 z).map .s)]++[.l (gf.map .s)]) (Wb b) x W ?_ ?_
 ·rw[show Y++([AO.l (N.1.map .i)]++j++[.l ((jT 0 z).map .s)]++[.l (gf.map .s)])=b++[.l ((jT 0 z).map .s)]++[.l (gf.map .s)]by rw[<-q];simp only[aj]];exact aT D (aT (mC (mD (aO F.holes) rfl (aS R bu) (Dp (by omega)))) (aT (mC (mD (aO F.texts) rfl (aS E bu) (Dq (by omega)))) cG))
 ·rw[show Y++([AO.l (N.1.map .i)]++j++[.l ((jT 0 z).map .s)]++[.l (gf.map .s)])=b++[.l ((jT 0 z).map .s)]++[.l (gf.map .s)]by rw[<-q];simp only[aj]];exact fS jf
end
end
section
open PySem
section
variable {X G Y Z S:St} {nu:ae aq} {at_:aq} {n a:af} {σ:St} {I:ae aq} {fr:AF} {U:ae aq} {T:ae Row} {J:ae (ae af)} {C:ae af} {cs:ae (aC×af)}
noncomputable def oH:ae Row->ae af->ae aq×ae Row
 |T,[]=>([],T)
 |T,z::zs=>((p7 T z).1::(oH (p7 T z).2 zs).1,(oH (p7 T z).2 zs).2)
noncomputable def Ec:ae Row->ae af->Prop
 |_,[]=>True
 |T,z::zs=>z<=900/\(Wb T)<=10000/\oP (i9 T 0 z).2 (i9 T 0 z).1/\Ec (p7 T z).2 zs
def HP (Y:St) (C:ae af) (a:ae (ae (ae af))):Prop:=∀i q:af,C[i]?=aa q->∃(p:af) (h:ae (ae af)),q=p+42/\a[i]?=aa h/\Y[p]?=aa (.l (h.map .s))
theorem Ri (B:0<(Wb U)) (D:(Wb U)<=1000) (all:ae AV):∀(b:ae af) (a:af) (T:ae Row) (J:ae (ae af)) (I:ae aq) (C:ae af) (Y:St) (vars:ae (aC×AV)),Ec T b->a+4*(Wb b)<=8000->LV vars->(Wb I)+(Wb b)<=100->(Wb C)+(Wb b)<=100->(Wb J)+(Wb b)<=100->
  ∃(X:St) (c:ae (ae af)) (d:ae af) (e:ae (aC×AV)),(Wb c)=(Wb b)/\(∀x∈c,x∈gf)/\(Wb d)=(Wb b)/\LV e/\
   eJ ah all (λu fr σ=>dw PR (n+210) FU {fr with v:=bA "size" u fr.v} σ) (b.map λ(z:af)=>AV.i z) ⟨vars,dP⟩ (bz U (a:af) T++GL J I C Y)=.k (.n,⟨e,dP⟩) (bz U ((a+(Wb b):af):aq) (oH T b).2++GL (J++c) (I++(oH T b).1) (C++d) (Y++X))/\HP (Y++X) d (b.map (jT 0)):=by
 intro m;induction m with
 |nil=>exactλa T J I C Y vars u0 f F g j l=>⟨[],[],[],vars,rfl,(λx h=>bJ h bF),rfl,F,by rw[aJ,aJ,aJ];show _=R.k (Fl.n,_) (bz _ _ T++GL J (I++[]) C Y);rw[aJ];exact iY rfl,λi q h=>nomatch h⟩
 |cons z b o=>
  intro a T J I C Y vars s f F g j l;refine lD s ?_;clear s;intro E G H K;rw[aQ]at f g j l;have t:=F.upd "size" (.i (z:af)) #[0] #[0] #[0] #[0] #[0] #[0] #[0];refine lq (Rh (n:=n) (a:=a) (T:=T) (J:=J) (I:=I) (U:=C) (Y:=Y) B D #["wUz&^wAEt3aaEWo};Uh<",f] t (bB) E G #[74,g] #[74,j] #[74,l] H) λw p x L M N=>?_;refine u8 (o (a+1) (p7 T z).2 (J++[x]) (I++[(p7 T z).1]) (C++[p+42]) (Y++w) (bA "size" (.i (z:af)) vars) K #["4{Kd7{x<nq9>d!A'Tf4Qiz:*EL",f] t (by rw[ar,bj];exact#[23,g]) (by rw[ar,bj];exact#[23,j]) (by rw[ar,bj];exact#[23,l])) λO c d P Q S V W A Z=>?_;refine⟨w++O,x::c,(p+42)::d,P,by rw[aQ,Q];rfl,λy h=>by rcases bw.mp h with rfl|h;exact L;exact S y h,by rw[aQ,V];rfl,W,?_,?_⟩
  ·rw[aj J,aj I,aj C,aj Y,show a+1+(Wb b)=a+(z::b).length by rw[aQ];exact aB #[19] #[20]]at A;exact fZ rfl M A
  ·intro i q h
   match i,h with|0,h=>exact fD p (jT 0 z) ((aw h).symm) rfl (by rw[<-aj];exact fS N)|i+1,h=>refine eV (Z i q h) λp' r r1 r2 r3=>?_;exact fD p' r r1 r2 (by rw[<-aj];exact r3)
end
noncomputable def HQ (T:ae Row) (q:aq):bD:=decide (0<=q)&&decide (q.toNat<(Wb T))
noncomputable def Ed (T:ae Row) (M:ae aq):bD:=M.all (HQ T)&&(M.flatMap (bQ T)).all (HQ T)&&decide ((Wb T)<=100000)&&decide (10<=(Wb T))&&decide ((M.flatMap (bQ T)).length<=400)&&decide ((Wb M)<=100000)&&decide ((gH T (df (iL T M))).length<=400)
variable {T:ae Row} {q:aq} {C:ae af}
theorem BJ (h:HQ T q=ai):je T q:=by unfold HQ at h;rw[cB,dM,dM]at h;exact h
theorem N5 {M:ae aq} (h:Ed T M=ai):oP T M:=by unfold Ed at h;simp only[cB,dM,cy]at h;refine dp h ?_;clear h;intro a c;obtain⟨⟨⟨⟨⟨d,e⟩,f⟩,g⟩,i⟩,j⟩:=a;exact⟨λt b=>BJ (d t b),λt b=>BJ (e t b),f,g,i,j,c⟩
noncomputable def Jt:ae Row->ae af->bD
 |_,[]=>ai
 |T,z::C=>decide (z<=900)&&decide ((Wb T)<=10000)&&Ed (i9 T 0 z).2 (i9 T 0 z).1&&Jt (p7 T z).2 C
theorem HR:∀{C:ae af} {T:ae Row},Jt T C=ai->Ec T C
 |[],_,_=>trivial
 |z::C,T,h=>by unfold Jt at h;simp only[cB,dM]at h;exact jB h.1.1.1 h.1.1.2 (N5 h.1.2) (HR h.2)
noncomputable def N6 (T:ae Row) (q:aq):bD:=HQ T q&&(match cL T q with|.n m _=>cP m|_=>aD)
set_option tactic.hygienic true in
theorem Rj (h:N6 T q=ai):rK T q:=by
 unfold N6 at h;rw[cB]at h;refine dy (BJ h.1) (λm f e=>?_) (λe=>?_)
 ·have h:=h.2;rw[e]at h;exact h
 ·have h:=h.2;split at h
  ·rename_i a;rw[a]at e;cases e
  ·cases h
noncomputable def Ee (T:ae Row) (t:aq) (z:af):bD:=HQ T t&&(bQ T t).all (N6 T)&&decide ((bQ T t).length<=1000)&&(cu T t).all BG&&decide ((cu T t).map k8=jT 0 z)&&(jT 0 z).all (λw=>decide ((Wb w)<=1000))&&decide ((jT 0 z).length<=1000)
theorem N7 {t:aq} {z:af} (h:Ee T t z=ai):rM T t/\Jo T t (jT 0 z)/\(∀q∈cu T t,q.1≠[]/\q.2.length<=2/\wt q<=30)/\(jT 0 z).length<=1000/\∀w∈jT 0 z,(Wb w)<=1000:=by unfold Ee at h;simp only[cB,dM,cy]at h;refine dp h ?_;clear h;intro c e;obtain⟨⟨⟨⟨⟨f,g⟩,i⟩,j⟩,d⟩,k⟩:=c;have b:=λq a=>DC (j q a);exact Au ⟨BJ f,λq a=>Rj (g q a),i,λq a=>⟨(b q a).2.1,by have:=(b q a).2.2.2;exact#[156,this]⟩⟩ ⟨λq a=>(b q a).1,λw=>by rw[d],by rw[<-d,az]⟩ (λq a=>(b q a).2) e k
noncomputable def BK (T:ae Row) (ts:ae aq):ae af->bD:=ts.rec (λC=>C.isEmpty) λt a b C=>C.rec aD λz C a=>Ee T t z&&b C
noncomputable def rC (C:ae af):bD:=Jt R0 C&&(BK (oH R0 C).2 (oH R0 C).1 C&&decide ((oH R0 C).2.length<=5000))
noncomputable abbrev vS:ae (ae af):=[[3,67],[67,3],[6,6,6],[2,101],[20,10],[10,20],[201]]
theorem TH:rC [3,67]=ai:=by decide+kernel
theorem TJ:rC [67,3]=ai:=by decide+kernel
theorem TK:rC [6,6,6]=ai:=by decide+kernel
theorem TL:rC [2,101]=ai:=by decide+kernel
theorem TM:rC [20,10]=ai:=by decide+kernel
theorem TN:rC [10,20]=ai:=by decide+kernel
noncomputable def Pl (n:aq):Row->bD
 |.n m f=>Br m n&&Br f 0
 |_=>aD
theorem HS (a b:aq):decide (a=b)=Br a b:=by cases h:Br a b with|true=>exact aI ((yM a b).mp h)|false=>exact aX λq=>eT (h.symm.trans ((yM a b).mpr q))
theorem N8 (q:Row) (n:aq):dO (dA q) (dA (.n n 0))=Pl n q:=by cases q with|n m f=>show(ai&&(decide (m=n)&&(decide (f=0)&&ai)))=(Br m n&&Br f 0);rw[HS,HS,sh,jA]|_=>rfl
noncomputable def Ef:ae Row->aq->af->au af
 |[],_,_=>ah
 |q::R,n,k=>bif Pl n q then aa k else Ef R n (k+1)
theorem N9 (n:aq):∀(T:ae Row) (k:af),rfind T (.n n 0) k=Ef T n k:=by
 intro T;induction T with
 |nil=>exactλb=>rfl
 |cons q R a=>exactλk=>by show(bif dO (dA q) (dA (.n n 0))then aa k else rfind R (.n n 0) (k+1))=_;rw[N8,a];rfl
noncomputable def yS (T:ae Row) (k:af) (m:af):ae aq×ae Row:=m.rec (λb T=>([],T)) (λb a k T=>match Ef T (k:af) 0 with
 |some j=>(((j:af):aq)::(a (k+1) T).1,(a (k+1) T).2)
 |none=>(((Wb T):aq)::(a (k+1) (T++[.n (k:af) 0])).1,(a (k+1) (T++[.n (k:af) 0])).2)) k T
theorem N':∀(m k:af) (T:ae Row),i9 T k m=yS T k m:=by
 intro m;induction m with
 |zero=>exactλa a=>rfl
 |succ m b=>
  intro k T;show(((eZ T (.n (k:af) 0)).1:aq)::(i9 (eZ T (.n (k:af) 0)).2 (k+1) m).1,(i9 (eZ T (.n (k:af) 0)).2 (k+1) m).2)=(match Ef T (k:af) 0 with
   |some j=>(((j:af):aq)::(yS T (k+1) m).1,(yS T (k+1) m).2)
   |none=>(((Wb T):aq)::(yS (T++[.n (k:af) 0]) (k+1) m).1,(yS (T++[.n (k:af) 0]) (k+1) m).2))
  rw[b,<-N9];unfold eZ;cases rfind T (.n (k:af) 0) 0<;>rfl
noncomputable def Ju (z:af) (N:ae aq×ae Row):bD:=(decide (z<=900)&&decide (R0.length<=10000)&&Ed N.2 N.1&&ai)&&(BK (cH N.2 N.1).2 [(cH N.2 N.1).1] [z]&&decide ((cH N.2 N.1).2.length<=5000))
theorem N_ (z:af):rC [z]=Ju z (i9 R0 0 z):=rfl
theorem TO:Ju 201 (yS R0 0 201)=ai:=by decide+kernel
theorem TP:rC [201]=ai:=(N_ 201).trans ((aU (Ju 201) (N' 201 0 R0)).trans TO)
theorem Oa:∀C∈vS,rC C=ai:=cv.mpr ⟨TH,cv.mpr ⟨TJ,cv.mpr ⟨TK,cv.mpr ⟨TL,cv.mpr ⟨TM,cv.mpr ⟨TN,cv.mpr ⟨TP,λa h=>bJ h bF⟩⟩⟩⟩⟩⟩⟩
theorem LO (T:ae Row) (ts:ae aq):∃Y,(cH T ts).2=T++Y:=by
 unfold cH;split
 ·exact⟨[],(aJ _).symm⟩
 ·split
  ·exact⟨[],(aJ _).symm⟩
  ·exact⟨[],(aJ _).symm⟩
  ·refine ba (wU T (.u (gH T (df (iL T ts))))) λY e a=>?_;exact⟨Y,e⟩
theorem Ob:∀(m k:af) (T:ae Row),∃Y,(i9 T k m).2=T++Y:=by intro a;induction a with|zero=>exactλc T=>⟨[],(aJ _).symm⟩|succ m b=>intro k T;refine ba (wU T (.n (k:af) 0)) λX e c=>?_;refine ck (b (k+1) (eZ T (.n (k:af) 0)).2) λY f=>?_;exact⟨X++Y,by rw[<-aj,<-e];exact f⟩
theorem Rk:∀(C:ae af) (T:ae Row),∃Y,(oH T C).2=T++Y:=by
 intro a;induction a with
 |nil=>exactλT=>⟨[],(aJ _).symm⟩
 |cons z C b=>
  intro T;refine ck (Ob z 0 T) λX e=>?_;refine ck (LO (i9 T 0 z).2 (i9 T 0 z).1) λY f=>?_;refine ck (b (p7 T z).2) λZ g=>?_;have f:(p7 T z).2=T++X++Y:=by rw[<-e];exact f
  refine⟨X++Y++Z,?_⟩;show(oH (p7 T z).2 C).2=_;rw[g,f];simp only[aj]
def Pm (T:ae Row) (t:aq) (h:ae (ae af)):Prop:=rM T t/\Jo T t h/\(∀q∈cu T t,q.1≠[]/\q.2.length<=2/\wt q<=30)/\(Wb h)<=1000/\∀w∈h,(Wb w)<=1000
abbrev tZ (T:ae Row):ae aq->ae (ae (ae af))->Prop:=NU (Pm T)
theorem LP {ts:ae aq} (h:BK T ts C=ai):tZ T ts (C.map (jT 0)):=by
 induction ts generalizing C with
 |nil=>
  rcases C with _|⟨z,C⟩
  ·rfl
  ·exact nomatch (show aD=ai from h)
 |cons t ts a=>
  rcases C with _|⟨z,C⟩
  ·exact nomatch (show aD=ai from h)
  ·have h:=br.mp (show(Ee T t z&&BK T ts C)=ai from h);exact⟨_,_,rfl,N7 h.1,a h.2⟩
theorem Rl (h:C∈vS):Ec R0 C/\tZ (oH R0 C).2 (oH R0 C).1 (C.map (jT 0))/\kG (oH R0 C).2/\(oH R0 C).2.length<=5000/\(Wb C)<=3/\(oH R0 C).1.length=(Wb C):=by
 have e:=Oa C h;unfold rC at e;simp only[cB,dM]at e;have l:∀(C:ae af) (T:ae Row),(oH T C).1.length=(Wb C):=λC=>by induction C with|nil=>exactλa=>rfl|cons z C b=>exactλT=>aU (·+1) (b _)
 refine⟨HR e.1,LP e.2.1,?_,e.2.2,?_,l C R0⟩
 ·refine ck (Rk C R0) λY f=>?_;rw[f];exact kG.app (λi a=>rfl) Y
 ·have:∀C∈vS,(Wb C)<=3:=by decide
  exact this C h
theorem Jv:∀(a:ae (ae Sk)) (T:ae Row),zf T->(Wb T)+(Wb a)<=5000->(∀ds∈a,x6 ds)->
  zf (p6 T a).2/\(∃Y,(p6 T a).2=T++Y/\(Wb Y)<=(Wb a))/\tZ (p6 T a).2 (p6 T a).1 (a.map (nq uL))/\(p6 T a).1.length=(Wb a):=by
 intro c;induction c with
 |nil=>exactλT h k k=>jB h (aY ([]) ((aJ _).symm) (bf _)) rfl rfl
 |cons ds a e=>
  intro T h f hd;rw[aQ]at f;have l:=hd ds aH;refine Aq (BI h #["8K0L(A'OX+7RuXt__>",f] l) λk o b g p=>?_;obtain⟨Y,m,n⟩:=b;refine lD (e (cH T (ds.map Sk.ty)).2 o (by rw[m,ar];exact#["8R|n0~12==L9.|.uIO,5cWWHm",f,n]) (λd q=>hd d (aK _ q))) λg1 b g3 r=>?_;obtain⟨Z,i,s⟩:=b;refine jB g1 (aY (Y++Z) ?_ (by rw[ar,aQ];exact#[77,n,s])) ⟨_,_,rfl,?_,g3⟩ (aU (·+1) r)
  ·show(p6 (cH T (ds.map Sk.ty)).2 a).2=_;rw[i,m,aj]
  ·show Pm (p6 (cH T (ds.map Sk.ty)).2 a).2 _ _;have j:je (p6 (cH T (ds.map Sk.ty)).2 a).2 (cH T (ds.map Sk.ty)).1:=⟨g.1,by rw[i,ar];have:=g.2;exact#["9DFczuND)I",this]⟩
   refine Js g1.pre l j ?_;rw[<-p];unfold bQ;rw[i,bM g.2]
end
section
open PySem
section
variable {X G Y Z S:St} {nu:ae aq} {at_:aq} {n a:af} {σ:St} {R:ae aq} {fr:AF} {I:ae aq} {T:ae Row} {xs:ae (ae af)} {ls:ae af} {cs:ae (aC×af)}
variable {C:ae (aC×AV)} {zz:ae (ae af)} {x:ae af}
theorem FV {k:af} (b:0<(Wb I)) (c:(Wb I)<=1000) (e:a<=100000) (hk:0<k) (g:C.lookup "take"=aa tk):
  ∃d:af,d<k/\∀n,bg PR (n+43) ⟨C,dP⟩ (.f (.v "take") [.l (.i (k:af))]) (bz I (a:af) T++G)=.k (.i (d:af)) (bz I ((a+1:af):aq) T++G):=
 aY (qQ I a k) ((tD (n:=0) (T:=T) (G:=G) b c e hk).2) (λn=>bU (aO g) (aS bL bu) (Bc (tD (n:=n+1) b c e hk).1))
noncomputable abbrev Pn:ae IS:=[.f (.v "k") (.f (.g "range") [.f (.v "take") [lI 4]]) FK]
noncomputable abbrev Po:ae IS:=[.a "sizes" (.u (.s [.p [lI 3,lI 67],.p [lI 67,lI 3],.p [lI 6,lI 6,lI 6],.p [lI 2,lI 101]]) (.f (.v "take") [lI 4])),
 .i (.m (dm (.c "nums")) .GtE (lI 14)) [.a "sizes" (.u (.s [.p [lI 20,lI 10],.p [lI 10,lI 20],.p [lI 3,lI 67],.p [lI 201]]) (.f (.v "take") [lI 4]))] [],
 .f (.v "size") (.v "sizes") FU]
noncomputable abbrev TQ:ae IS:=[.a "texts" (.s [.u (.f (.g "_law_texts") []) (.f (.v "take") [lI 7])]),
 .a "types" (.s []),
 .a "holes" (.s []),
 .i (.m (.f (.v "take") [lI 8]) .Eq (lI 5)) Po Pn]
structure z9 (T:ae Row) (xs:ae (ae af)) (R:ae aq) (ls:ae af) (hs:ae (ae (ae af))) (Y:St):Prop where
 pre:kG T
 len:(Wb T)<=6000
 x:(Wb xs)=R.length+1
 h:(Wb hs)=R.length
 l:(Wb ls)=R.length
 n:R.length<=3
 low:∀x∈xs,x∈gf
 laid:tZ T R hs
 holes:HP Y ls hs
theorem Oc {σ:St} {d l:af} (h:σ[l]?=aa (.l (zz.map λa=>.t (a.map λ(z:af)=>.i z)))) (hd:d<(Wb zz)) (c:(Wb zz)<=1000):∃a∈zz,du (.l l) (.i (d:af)) σ=aa (.t (a.map λ(z:af)=>.i z)):=by refine ck (⟨zz[d],aR hd⟩:∃a,zz[d]?=aa a) λa b=>?_;exact aY a (bG b) (kK h (by omega) (by rw[cU,bE,b];rfl) (by rw[az];exact#[3,c]))
theorem Rm (A:0<(Wb I)) (B:(Wb I)<=1000) (o:a<=100) (F:LV C) (K:x∈gf):
  ∃b g T xs R ls L D,dw PR (n+219) Pn ⟨C,dP⟩ (bz I (a:af) R0++GL [x] [] [] Y)=.k (.n,⟨b,dP⟩) (bz I (g:af) T++GL xs R ls D)/\LV b/\g<=200/\z9 T xs R ls L D:=by
 refine ba (FV (G:=GL [x] [] [] Y) (T:=R0) (k:=4) A B (#["1D;ounv%!FK*XK`r",o]:a<=100000) #[0] F.take) λd hd M=>?_;have E:zf R0:=aY ([]) ((aJ _).symm) (λr h=>bJ h bF);refine sp (Q8 (n:=n+7) (ns:=I) (J:=10) (Tab:=λj T=>zf T/\(Wb T)<=27+j) (λj T N O ds s=>by obtain⟨P,H⟩:=O;obtain⟨m,Q,⟨Y,S,V⟩,_⟩:=BI P #["ae*og=Qs.CxS1yLPfqBx",N,H] s;exact dy m Q (by rw[S,ar];exact#["42prO^rcmNG^Ndwr?GKqY1`2V%g",H,V])) A B (dr 0 d) d 0 0 (a+1) R0 [x] [] [] Y C ⟨E,by decide⟩ #["1UmM!m%FOk,",hd] #["Z)m|f3w^LTXM?0`N_8k`z_^J",o,hd] F (by show 0+d<=100;exact#[175,hd]) (by show 0+d<=100;exact#[175,hd]) (by show 1+d<=100;exact#["1`gdd,us_(58",hd])) λc g X t u W q1 Z q3 q4 q5 q6 F' q7 e w=>?_;have i1:items (.r 0 (d:af)) (bz I ((a+1:af):aq) R0++GL [x] [] [] Y)=aa (dr 0 d,ah):=by rw[kE #[0] (c_ #[176,hd]) (by omega),nJ]
 refine lD (Jv c R0 E (by rw[q1];show 27+d<=5000;exact#["xdu^Vw8P`3'ba_(G",hd]) Z) λg1 v g3 l=>?_;obtain⟨U,g2,z⟩:=v;have r0:R0.length=27:=rfl;refine⟨W,g,_,[x]++t,(p6 R0 c).1,u,c.map (nq uL),Y++X,aT (gI (bU (cC mV) (aS (M (n+172)) bu) (nF (mE (c_ #[176,hd])))) i1 e) cG,F',#["lRb;>Z_s>{wMe=f&CGw<B,_`Rm(",o,hd,q6],?_⟩;refine⟨g1.pre,by rw[g2,ar];exact#["GeVONT{%7u&Ofu1{|I$:40$!iH+%",hd,q1,z,r0],by rw[ar,q3,l,q1,bj];exact aB #[199] #[201],by rw[az,l],by rw[q5,l,q1],by rw[l,q1];exact#["7C.oagAP)",hd],λy f=>?_,g3,λi q h=>?_⟩
 ·rcases b7.mp f with f|f
  ·rw[aL.mp f];exact K
  ·exact q4 y f
 ·refine eV (w i q h) λp ds r1 r2 r3=>?_;exact fD p (nq uL ds) r1 (by rw[bE,r2];rfl) r3
theorem BL {es:ae IE} {Y:St} (q:0<(Wb I)) (r:(Wb I)<=1000) (w:a<=1000) (F:LV C) (e:(Wb zz)=4) (m:∀(n:af) fr σ,ie PR (n+20) fr es σ=.k (zz.map λb=>.t (b.map λ(z:af)=>.i z)) σ):
  ∃b∈zz,∃x,∀n,cS PR (n+100) (.a "sizes" (.u (.s es) (.f (.v "take") [lI 4]))) ⟨C,dP⟩ (bz I (a:af) T++GL xs R ls Y)=.k (.n,⟨bA "sizes" (.t (b.map λ(z:af)=>.i z)) C,dP⟩) (bz I ((a+1:af):aq) T++GL xs R ls x):=by
 generalize c:(zz.map λb=>AV.t (b.map λ(z:af)=>.i z))=us at m;have ul:(Wb us)=4:=by rw[<-c,az,e]
 refine ba (FV (G:=GL xs R ls (Y++[.l us])) (T:=T) (k:=4) q r (#["1D;ounv%!HsJ*cNf",w]:a<=100000) #[0] F.take) λd hd y=>?_;have g:(bz I ((a+1:af):aq) T++GL xs R ls (Y++[.l us]))[(bz I (a:af) T++GL xs R ls Y).length]?=aa (.l us):=by rw[jH,<-mQ];exact gk (X:=[AO.l us]) 0
 refine ba (Oc (zz:=zz) (d:=d) (by rw[c];exact g) #["J:Fk&=Q0TdPh",e,hd] #["1s6sbwgzes7",e]) λb h o=>?_;have E:bz I (a:af) T++GL xs R ls Y++[.l us]=bz I (a:af) T++GL xs R ls (Y++[.l us]):=by rw[aj,mQ]
 refine⟨b,h,Y++[.l us],λn=>?_⟩;have j:bg PR (n+98) ⟨C,dP⟩ (.s es) (bz I (a:af) T++GL xs R ls Y)=.k (.l (bz I (a:af) T++GL xs R ls Y).length) (bz I (a:af) T++GL xs R ls (Y++[.l us])):=by rw[<-E];exact jQ (m (n+77) _ _) (jP #["I_3maCwj}9gJ",ul])
 have p:=y (n+55);generalize bz I (a:af) T++GL xs R ls (Y++[.l us])=σ1 at j p;generalize(bz I (a:af) T++GL xs R ls Y).length=l at j o;exact dQ (eu j p o)
theorem Rn (M:0<(Wb I)) (H:(Wb I)<=1000) (J:a<=100) (F:LV C) (hx:x∈gf):
  ∃d q T xs R ls hs W,dw PR (n+219) Po ⟨C,dP⟩ (bz I (a:af) R0++GL [x] [] [] Y)=.k (.n,⟨d,dP⟩) (bz I (q:af) T++GL xs R ls W)/\LV d/\q<=200/\z9 T xs R ls hs W:=by
 refine OA (BL (T:=R0) (xs:=[x]) (R:=[]) (ls:=[]) (Y:=Y) (a:=a) (zz:=[[3,67],[67,3],[6,6,6],[2,101]]) (es:=[.p [lI 3,lI 67],.p [lI 67,lI 3],.p [lI 6,lI 6,lI 6],.p [lI 2,lI 101]]) M H #["~^q+(vLz=cW%k^",J] F rfl (λA A A=>rfl)) λB m1 j s1=>?_;have N:=F.upd "sizes" (.t (B.map λ(z:af)=>.i z)) #[0] #[0] #[0] #[0] #[0] #[0] #[0];have D:∃g∈vS,∃q o b,q<=a+2/\LV b/\b.lookup "sizes"=aa (.t (g.map λ(z:af)=>.i z))/\cS PR (n+217) (.i (.m (dm (.c "nums")) .GtE (lI 14)) [.a "sizes" (.u (.s [.p [lI 20,lI 10],.p [lI 10,lI 20],.p [lI 3,lI 67],.p [lI 201]]) (.f (.v "take") [lI 4]))] [])
   ⟨bA "sizes" (.t (B.map λ(z:af)=>.i z)) C,dP⟩ (bz I ((a+1:af):aq) R0++GL [x] [] [] j)=.k (.n,⟨b,dP⟩) (bz I (q:af) R0++GL [x] [] [] o):=by
  have c1:builtin "len" [.l 0] (bz I ((a+1:af):aq) R0++GL [x] [] [] j)=.k (.i ((Wb I):af)) (bz I ((a+1:af):aq) R0++GL [x] [] [] j):=by rw[mW (C:=I.map .i) rfl (by rw[az];exact#[3,H]),az]
  have K:er PR (n+216) ⟨bA "sizes" (.t (B.map λ(z:af)=>.i z)) C,dP⟩ (.m (dm (.c "nums")) .GtE (lI 14)) (bz I ((a+1:af):aq) R0++GL [x] [] [] j)=.k (decide (14<=((Wb I):aq))) (bz I ((a+1:af):aq) R0++GL [x] [] [] j):=ef (bU (cC gn) (aS (gW rfl) bu) (gM c1)) bL rfl;by_cases h:(14:aq)<=((Wb I):aq)
  ·rw[aI h]at K;refine OA (BL (T:=R0) (xs:=[x]) (R:=[]) (ls:=[]) (Y:=j) (a:=a+1) (zz:=[[20,10],[10,20],[3,67],[201]]) (es:=[.p [lI 20,lI 10],.p [lI 10,lI 20],.p [lI 3,lI 67],.p [lI 201]]) M H #["B>BaqImW}s~av4?d",J] N rfl (λA A A=>rfl)) λO m2 o D=>?_;refine⟨O,?_,a+1+1,o,_,#["2i=C1R<B(z"],N.upd "sizes" (.t (O.map λ(z:af)=>.i z)) #[0] #[0] #[0] #[0] #[0] #[0] #[0],bB,dB (r:=ai) K (nG (aT (D (n+115)) cG))⟩;exact(by decide:∀z∈([[20,10],[10,20],[3,67],[201]]:ae (ae af)),z∈vS) O m2
  ·rw[aX h]at K;refine⟨B,?_,a+1,j,_,#["IIf<K9zn"],N,bB,dB (r:=aD) K (ix cG)⟩;exact(by decide:∀z∈([[3,67],[67,3],[6,6,6],[2,101]]:ae (ae af)),z∈vS) B m1
 obtain⟨g,P,Z,o,v2,E,F2,Q,D⟩:=D;refine qF (Rl P) λk1 k2 k3 k4 k5 L=>?_;refine u8 (Ri (n:=n+5) (U:=I) M H (g.map λ(z:af)=>.i z) g Z R0 [x] [] [] o v2 k1 #["L{cjvFT~nNRa0&DA$4&KnEly&.}N",J,E,k5] F2 (by show 0+(Wb g)<=100;exact#[177,k5]) (by show 0+(Wb g)<=100;exact#[177,k5]) (by show 1+(Wb g)<=100;exact#["1`gdd,usS2I?",k5])) λX S V v' q3 q4 q5 F' e w=>?_;refine⟨v',Z+(Wb g),_,[x]++S,(oH R0 g).1,V,g.map (jT 0),o++X,aT (s1 (n+118)) (aT D (aT (gI (aO Q) (rL (by rw[az];exact#[40,k5])) e) cG)),F',#["Awh.epm4+Jx,3Jwc>j)&W}*UV",J,E,k5],?_⟩;refine⟨k3,#["5~UWEAyKb(|qu&z",k4],by rw[ar,q3,L,bj];exact aB #[199] #[201],by rw[az,L],by rw[q5,L],#["4XDZ.+gLSz`Th",k5,L],λy G=>?_,k2,w⟩;rcases b7.mp G with G|G
 ·rw[aL.mp G];exact hx
 ·exact q4 y G
end
end
section
open PySem PyProof.Rows
section
variable {X G Y Z S:St} {nu:ae aq} {at_:aq} {n a:af} {I U:St} {ts:ae aq} {C R:AF} {J:ae aq} {T:ae Row} {xs:ae (ae af)} {ls:ae af} {cs:ae (aC×af)} {P:Prog} {s:IS} {ss:ae IS} {v:AV}
theorem jl (h:cS P n s C I=.k (.n,R) U) (a:∀b c x,s≠.y b c x):fH P n (s::ss) C I=fH P n ss R U:=by induction s using uZ with|y b c x=>exact bJ rfl (a b c x)|_=>show(match cS P n _ C I with|.k (.n,C) I=>fH P n ss C I|.k (.r v,C) I=>.k (.r v,C) I|_=>.b)=_;rw[h]
theorem Ro (h:cS P n s C I=.k (.r v,R) U) (a:∀b c x,s≠.y b c x):fH P n (s::ss) C I=.k (.r v,R) U:=by induction s using uZ with|y b c x=>exact bJ rfl (a b c x)|_=>show(match cS P n _ C I with|.k (.n,C) I=>fH P n ss C I|.k (.r v,C) I=>.k (.r v,C) I|_=>.b)=_;rw[h]
theorem TR (ss:ae IS) (p:0<(Wb J)) (q:(Wb J)<=1000):∃c i T xs ts ls o j,fH PR (n+221) (TQ++ss) ⟨p5,dP⟩ (bz J 0 R0++G0)=fH PR (n+221) ss ⟨c,dP⟩ (bz J (i:af) T++GL xs ts ls j)/\LV c/\i<=200/\z9 T xs ts ls o j:=by
 refine ba (vO (n:=n+168) (G:=G0) (T:=R0) (J:=⟨p5,dP⟩) (L:=gf) (z:=7) (a:=0) p q #["37Y`EiGm"] #[0] rfl #[0] vc (λb b=>zT) rfl) λx A D=>?_;have H:cS PR (n+221) (.a "texts" (.s [.u (.f (.g "_law_texts") []) (.f (.v "take") [lI 7])])) ⟨p5,dP⟩ (bz J 0 R0++G0)=.k (.n,⟨bA "texts" (.l 39) p5,dP⟩) (bz J ((0+1:af):aq) R0++(G0++[.l (gf.map .s)])++[.l [.s x]]):=
  dQ (jQ (aS D bu) rfl)
 have I:cS PR (n+221) (.a "types" (.s [])) ⟨bA "texts" (.l 39) p5,dP⟩ (bz J ((0+1:af):aq) R0++(G0++[.l (gf.map .s)])++[.l [.s x]])=.k (.n,⟨bA "types" (.l 40) (bA "texts" (.l 39) p5),dP⟩) (bz J ((0+1:af):aq) R0++(G0++[.l (gf.map .s)])++[.l [.s x]]++[.l []]):=
  dQ (jQ bu rfl)
 have B:cS PR (n+221) (.a "holes" (.s [])) ⟨bA "types" (.l 40) (bA "texts" (.l 39) p5),dP⟩ (bz J ((0+1:af):aq) R0++(G0++[.l (gf.map .s)])++[.l [.s x]]++[.l []])=.k (.n,⟨bA "holes" (.l 41) (bA "types" (.l 40) (bA "texts" (.l 39) p5)),dP⟩) (bz J ((0+1:af):aq) R0++(G0++[.l (gf.map .s)])++[.l [.s x]]++[.l []]++[.l []]):=
  dQ (jQ bu rfl)
 have E:bz J ((0+1:af):aq) R0++(G0++[AO.l (gf.map .s)])++[.l [.s x]]++[.l []]++[.l []]=bz J ((0+1:af):aq) R0++GL [x] [] [] []:=by simp only[aj];rfl
 have F:LV (bA "holes" (.l 41) (bA "types" (.l 40) (bA "texts" (.l 39) p5))):=⟨rfl,rfl,rfl,rfl,rfl,rfl,rfl⟩
 rw[E]at B;rw[jl H (λb b b=>IS.noConfusion),jl I (λb b b=>IS.noConfusion),jl B (λb b b=>IS.noConfusion)];generalize bA "holes" (.l 41) (bA "types" (.l 40) (bA "texts" (.l 39) p5))=vars at F⊢;refine ba (FV (G:=GL [x] [] [] []) (T:=R0) (k:=8) (a:=0+1) p q #["a%G6+eeg4"] #[0] F.take) λd hd K=>?_;have t:er PR (n+220) ⟨vars,dP⟩ (.m (.f (.v "take") [lI 8]) .Eq (lI 5)) (bz J ((0+1:af):aq) R0++GL [x] [] [] [])=.k (decide (d=5)) (bz J ((0+1+1:af):aq) R0++GL [x] [] [] []):=by refine ef (K (n+175)) bL ?_;exact aU aa (eH.mpr ⟨λh=>by omega,λh=>by omega⟩)
 by_cases C:d=5
 ·refine rY (Rn (n:=n+1) (Y:=[]) (a:=0+1+1) p q #[191] F A) λw i T xs ts ls o j e y h' L=>?_;rw[aI C]at t;exact⟨w,i,T,xs,ts,ls,o,j,jl (dB (r:=ai) t (nG e)) (λb b b=>IS.noConfusion),y,h',L⟩
 ·refine rY (Rm (n:=n+1) (Y:=[]) (a:=0+1+1) p q #[191] F A) λw i T xs ts ls o j e y h' L=>?_;rw[aX C]at t;exact⟨w,i,T,xs,ts,ls,o,j,jl (dB (r:=aD) t (ix e)) (λb b b=>IS.noConfusion),y,h',L⟩
end
end
section
open PySem
section
variable {X G Y Z S B:St} {nu:ae aq} {at_:aq} {n a:af} {σ σ1:St} {J:ae aq} {fr fr1:AF} {C:ae aq} {T:ae Row} {I:ae (ae af)} {ls:ae af} {cs:ae (aC×af)} {v U:AV}
def uN (C:ae aq) (T:ae Row) (G:St) (v U:AV):Prop:=∃(I:ae (ae af)) (J:ae aq),(∀(b:aq) X,kT (bz C b T++(G++X)) v (I.map .s))/\(∀(b:aq) X,kT (bz C b T++(G++X)) U (J.map .i))/\(Wb I)=(Wb J)+1/\(Wb I)<=8/\∀x∈I,(Wb x)<=500
theorem uN.more (h:uN C T G v U) (Y:St):uN C T (G++Y) v U:=by refine eV h ?_;clear h;intro I J a c d;exact fD I J (λb X=>by rw[aj];exact a b (Y++X)) (λb X=>by rw[aj];exact c b (Y++X)) d
noncomputable abbrev FW:IS:=.f (.p ["some","kinds"]) (.e (.v "asks") ah (aa (lI 4))) CH
theorem Od {all:ae AV} {i:af} (u:0<(Wb C)) (w:(Wb C)<=1000) (o:∀(b:aq) X,dU (aa i) all (bz C b T++(G++X))=ai):∀(its:ae (AV×AV)) (a:af) (vars:ae (aC×AV)) (Y:St),(∀e∈its,uN C T G e.1 e.2)->a+10*(Wb its)<=9000->LV vars->
  ∃c d f,eJ (aa i) all (λv fr σ=>match il (.p ["some","kinds"]) v fr σ with|some r=>dw PR (n+620) CH r.1 r.2|none=>.b) (its.map λe=>.t [e.1,e.2]) ⟨vars,dP⟩ (bz C (a:af) T++(G++Y))=.k (.n,⟨c,dP⟩) (bz C (d:af) T++(G++f)):=by
 intro g;induction g with|nil=>exactλa vars Y q q q=>DY vars a Y (iY (o _ _))|cons e its j=>intro a vars Y h l F;rw[aQ]at l;refine qG (h e aH) λI J x y s z A=>?_;have B:=(F.upd "some" e.1 #[0] #[0] #[0] #[0] #[0] #[0] #[0]).upd "kinds" e.2 #[0] #[0] #[0] #[0] #[0] #[0] #[0];refine lq (NL (n:=n) (a:=a) (Y:=Y) u w #["&u1,5_!^t^*HuxX7+e^Q",l] B (b9 (bB)) (bB) x y s z A (Jl s)) λv1 D E H K m=>?_;refine yx (j D v1 E (λe L=>h e (aK _ L)) #["3aCL`O_G!I&%q'jgke,(%QlWUE'qsY",l,m] K) λM d f N=>?_;exact DY M d f (fZ (o _ _) H N)
theorem FX {vars:ae (aC×AV)} {its:ae (AV×AV)} {l:af} (g:0<(Wb C)) (h:(Wb C)<=1000) (j:a<=1000) (F:LV vars) (m:vars.lookup "asks"=aa (.l l)) (f:(bz C (a:af) T++G)[l]?=aa (.l (its.map λe=>.t [e.1,e.2]))) (o:∀e∈its,uN C T G e.1 e.2) (p:(Wb its)<=1000):
  ∃fr' σ',fH PR (n+621) [FW,.r (.l (.b ai))] ⟨vars,dP⟩ (bz C (a:af) T++G)=.k (.r (.b ai),fr') σ':=by
 have q:slice (.l l) ah (aa (.i 4)) (bz C (a:af) T++G)=.k (.l ((Wb G)+17)) (bz C (a:af) T++(G++[.l ((its.take 4).map λe=>.t [e.1,e.2])])):=by show B7 ah (aa (.i 4)) _ ((bz C (a:af) T++G)[l]?)=_;rw[f];show(if bV (its.map λe=>AV.t [e.1,e.2])=ai then R.k (AV.l (bz C (a:af) T++G).length) (bz C (a:af) T++G++[.l (((its.map λe=>AV.t [e.1,e.2]).take (min 4 (its.map λe=>AV.t [e.1,e.2]).length)).drop 0)])else .b)=_;rw[aF (jP (by rw[az];exact#[3,p])),jH,aj,gB,<-pO,<-List.map_take]
 have c:(its.take 4).length<=4:=by rw[bR];exact#["7jHmC!NkY",cZ _ _]
 refine yx (Od (n:=n) (C:=C) (T:=T) (G:=G++[.l ((its.take 4).map λe=>.t [e.1,e.2])]) (all:=(its.take 4).map λe=>.t [e.1,e.2]) (i:=(Wb G)+17) g h (λb X=>fg (by rw[aj];exact gk (X:=AO.l ((its.take 4).map λe=>.t [e.1,e.2])::X) 0)) (its.take 4) a vars [] (λe s=>(o e (mI s)).more _) #["3W;zsD9C*?Dr*4h~_!LCU'_",j,c] F) λu v w e=>?_;rw[aJ]at e;have x:cS PR (n+621) FW ⟨vars,dP⟩ (bz C (a:af) T++G)=.k (.n,⟨u,dP⟩) (bz C (v:af) T++(G++[.l ((its.take 4).map λe=>.t [e.1,e.2])]++w)):=
  S8 (oX (aO m) oM (lG bL) q) (kF (gk 0) (by rw[az];exact#["I_3maCwj}9fe",c])) e
 rw[jl x (λd d d=>IS.noConfusion)];exact lg _ _ (Ro (fi bL) (λd d d=>IS.noConfusion))
end
section
variable {X G Y Z S B:St} {I:ae aq} {C:aq} {n a:af} {R σ1:St} {ts:ae aq} {J fr1:AF} {ns:ae aq} {T:ae Row} {xs:ae (ae af)} {ls:ae af} {cs:ae (aC×af)} {v tv:AV} {q:aq}
noncomputable abbrev iE (e:AV×AV):AV:=.t [e.1,e.2]
noncomputable abbrev Jw:ae IS:=[.i (.m (.f (.g "kind_of") [.c "tab",.v "part"]) .Eq (.g "Y_TPL")) [.e (.h (.v "asks") "append" [.p [.u (.h (.c "tab") "row" [.v "part"]) (lI 1),.u (.h (.c "tab") "row" [.v "part"]) (lI 2)]])] []]
def CL (T:ae Row) (q:aq):Prop:=je T q/\(kd (cL T q)=18->∃p:Pc,iD p/\tY p/\cL T q=.t p.1 p.2)
def Oe (e:AV×AV):Prop:=∃p:Pc,iD p/\tY p/\e=(.t (p.1.map .s),.t (p.2.map .i))
theorem Rp {vars:ae (aC×AV)} {its:ae (AV×AV)} (o:(Wb T)<=100000) (y:vars.lookup "asks"=aa (.l ((Wb G)+0+17))) (b:CL T q) (r:vars.lookup "part"=aa (.i q)) (z:(Wb its)<=10000):
  ∃a,dw PR (n+40) Jw ⟨vars,dP⟩ (bz I C T++(G++(.l (its.map iE)::Z)))=.k (.n,⟨vars,dP⟩) (bz I C T++(G++(.l ((its++a).map iE)::Z)))/\(Wb a)<=1/\∀e∈a,Oe e:=by
 have A:=K0 (n:=n+13) (J:=I) (C:=C) (G:=G++(.l (its.map iE)::Z)) b.1.1 b.1.at (#[2,o]:(Wb T)<=1000000);have d:er PR (n+38) ⟨vars,dP⟩ (.m (.f (.g "kind_of") [.c "tab",.v "part"]) .Eq (.g "Y_TPL")) (bz I C T++(G++(.l (its.map iE)::Z)))=.k (decide (kd (cL T q)=18)) (bz I C T++(G++(.l (its.map iE)::Z))):=
  ef (bU (cC KP) (aS (gW rfl) (aS (aO r) bu)) (jX A)) (cC Hx) rfl
 by_cases h:kd (cL T q)=18
 ·obtain⟨p,p1,B,D⟩:=b.2 h;rw[aI h]at d;have w:=λm=>K2 (n:=m) (J:=I) (C:=C) (G:=G++(.l (its.map iE)::Z)) b.1.1 b.1.at (#[2,o]:(Wb T)<=1000000);rw[D]at w;have x:∀m,bg PR (m+23) ⟨vars,dP⟩ (.h (.c "tab") "row" [.v "part"]) (bz I C T++(G++(.l (its.map iE)::Z)))=.k (dA (.t p.1 p.2)) (bz I C T++(G++(.l (its.map iE)::Z))):=λm=>Ba (gW rfl) rfl rfl rfl rfl (aS (aO r) bu) (jX (w (m+1)));have E:bg PR (n+34) ⟨vars,dP⟩ (.p [.u (.h (.c "tab") "row" [.v "part"]) (lI 1),.u (.h (.c "tab") "row" [.v "part"]) (lI 2)]) (bz I C T++(G++(.l (its.map iE)::Z)))=.k (iE (.t (p.1.map .s),.t (p.2.map .i))) (bz I C T++(G++(.l (its.map iE)::Z))):=
   sQ (aS (eu (x (n+8)) bL rfl) (aS (eu (x (n+7)) bL rfl) bu)) rfl
  refine dS ([(.t (p.1.map .s),.t (p.2.map .i))]) (aT (dB d (nG (aT (mC (mD (aO y) (gk 0) (aS E bu) ?_)) cG))) cG) (bf _) (λe j=>dS p p1 B (aL.mp j));rw[Jd (k:=0) rfl (by rw[az];exact#[12,z]),dh];rfl
 ·rw[aX h]at d;exact dS ([]) (by rw[aJ];exact aT (dB d (ix cG)) cG) #[0] (λe j=>bJ j bF)
theorem Rq (all:ae AV) (w:(Wb T)<=100000):∀(c:ae aq) (vars:ae (aC×AV)) (its:ae (AV×AV)),(∀q∈c,CL T q)->LV vars->vars.lookup "asks"=aa (.l ((Wb G)+0+17))->(Wb its)+(Wb c)<=10000->
  ∃a b,eJ ah all (λu J R=>dw PR (n+40) Jw {J with v:=bA "part" u J.v} R) (c.map .i) ⟨vars,dP⟩ (bz I C T++(G++(.l (its.map iE)::Z)))=.k (.n,⟨a,dP⟩) (bz I C T++(G++(.l ((its++b).map iE)::Z)))/\(Wb b)<=(Wb c)/\(∀e∈b,Oe e)/\LV a/\a.lookup "asks"=aa (.l ((Wb G)+0+17)):=by
 intro f;induction f with|nil=>exactλvars its x F g x=>qJ vars ([]) (by rw[aJ];exact iY rfl) (bf _) (λe j=>bJ j bF) F g|cons q c m=>intro vars its r F g o;rw[aQ]at o;have y:=F.upd "part" (.i q) #[0] #[0] #[0] #[0] #[0] #[0] #[0];have d:(bA "part" (.i q) vars).lookup "asks"=aa (.l ((Wb G)+0+17)):=b9 g;obtain⟨i1,z,s,A⟩:=Rp w d (r q aH) (bB) #["Gd_)x!iPG}W54_$dhE",o];refine qG (m (bA "part" (.i q) vars) (its++i1) (λq h=>r q (aK _ h)) y d (by rw[ar];exact#["Gt<Tj$Q2r=4Z!ym:y'4MjOdd%",o,s])) λB D t E H K p=>?_;rw[aj its]at t;exact qJ B (i1++D) (fZ rfl z t) (by rw[ar,aQ];exact#[77,s,E]) (λe j=>(b7.mp j).elim (A e) (H e)) K p
end
section
variable {X G Y Z S B:St} {nu:ae aq} {at_:aq} {n a:af} {I σ1:St} {C:ae aq} {fr fr1:AF} {U:ae aq} {T:ae Row} {R:ae (ae af)} {ls:ae af} {J:ae (ae (ae af))} {cs:ae (aC×af)} {v tv:AV} {q:aq}
noncomputable abbrev FY:ae IS:=[.i (.m (.f (.g "_law_read") [.c "tab",.v "got",.v "signs"]) .NotEq (.v "want")) [.r (.l (.b aD))] [],
 .f (.v "part") (.f (.g "parts_of") [.c "tab",.v "got"]) Jw]
noncomputable abbrev z_:ae IS:=[.i (.m (.m (.v "got") .Is (.l (.n))) .NotEq (.m (.v "want") .Is (.l (.n)))) [.r (.l (.b aD))] [],
 .a "asks" (.s [.p [.v "texts",.v "types"]]),
 .i (.m (.v "got") .IsNot (.l (.n))) FY [],FW,.r (.l (.b ai))]
noncomputable abbrev Eg:ae IS:=.a "want" (.f (.g "_law_words") [.v "texts",.v "holes"])::.a "got" (.l (.n))::
 .y [.a "got" (.f (.g "tpl_kind") [.v "host",.v "texts",.v "types"])] "TooDeep" "got"::z_
theorem Rr:pX.b=pX.b.take 4++(TQ++Eg):=rfl
variable {r:ae (ae af)}
theorem Rs {T:ae Row} (a:T≠[]) (e:T.map dA=r.map AV.s):False:=by
 rcases T with _|⟨t,T⟩
 ·exact a rfl
 ·rcases r with _|⟨x,r⟩
  ·exact nomatch e
  ·exact AV.noConfusion (show AV.t t.vs=AV.s x from(fB e).1)
theorem LQ {T':ae Row} {b:aq} (f:T≠[]) (h:iC (aa r) v (bz nu b T++G)) (X:St):iC (aa r) v (bz nu b T'++(G++X)):=by
 refine ba h ?_;clear h;intro l a e;refine dq a ?_;refine aY l rfl ?_;by_cases c:l<17
 ·have d:(bz nu b T)[l]?=aa (.l (r.map .s)):=by rewrite[<-e,bM (show l<(bz nu b T).length from c)];rfl
  rw[bM (show l<(bz nu b T').length from c)];have g:7≠l:=λq=>by
   subst q;have e:=aw d;injection e with e
   exact Rs f e
  have i:8≠l:=λq=>by subst q;exact AO.noConfusion (aw d)
  exact(qh i).trans ((qh g).trans d)
 ·refine ck (⟨l-17,aB #["2e!SHm`)l;8pEDduW",d8 _ _] #["K6TB:oxV0Pp4B^lT37M",ag #["42&W>lk*'Mk;U",c]]⟩:∃k,l=k+17) λk a=>?_;clear c;obtain rfl:=a;have e:=e;show(G++X)[k]?=_;exact fS e
section
variable {T:ae Row} {C:ae aq} {J:ae (ae (ae af))}
theorem TS {i:af} {h:ae (ae af)} (H:tZ T C J) (e:J[i]?=aa h):(Wb h)<=1000/\∀o∈h,(Wb o)<=1000:=by
 induction C generalizing J i with
 |nil=>obtain rfl:=(H:J=[]);exact nomatch (show ah=aa h from e)
 |cons t C b=>refine eV H λq c d a r=>?_;clear H;obtain rfl:=d;induction i using gC with|zero=>obtain rfl:=aw e;exact a.2.2.2|succ i=>exact b r e
theorem Rt (H:tZ T C J):Pk T C J:=by induction C generalizing J with|nil=>exact H|cons t C b=>exact eV H λq c e a r=>⟨_,_,e,a.2.1,b r⟩
theorem TU (H:tZ T C J):∀t∈C,rM T t/\∀q∈cu T t,q.1≠[]/\q.2.length<=2/\wt q<=30:=by induction C generalizing J with|nil=>exactλt h=>(bF h).elim|cons t C b=>exact eV H λq c e a r s d=>(bw.mp d).elim (λh=>h▸⟨a.1,a.2.2.1⟩) λh=>b r s h
end
theorem BM:∀x∈gf,(Wb x)<=2/\tX x:=by
 have h:gf.all (λx=>decide ((Wb x)<=2)&&x.all λc=>!decide (c∈x8))=ai:=by decide+kernel
 intro x a;have:=cy.mp h x a;simp only[cB,dM,cy,el,fw]at this;exact this
theorem DD (L:z9 T R C ls J Y) {d:ae Row} {Z:St}:uN U d (GL R C ls Z) (.l 39) (.l 40):=by have c:=L.x;have a:=L.n;exact qJ R C (λb X=>Ld rfl (by rw[az];exact#["1qNA})bda1UC06l(%m",c,a])) (λb X=>Ld rfl (by rw[az];exact#[40,a])) L.x #["&{nIk,1san!?~!",c,a] (λx e=>by have:=(BM x (L.low x e)).1;exact#["+6B^F~>}P)",this])
theorem Rv {e:AV×AV} (h:Oe e):uN U T G e.1 e.2:=by refine cV h ?_;clear h;intro p g f a;refine dq a ?_;have c:=g.len;have d:=f.ts;exact qJ p.1 p.2 (λb X=>Lc (by rw[az];exact#["1qNA})bdr_pToEcm,Q",c,d])) (λb X=>Lc (by rw[az];exact#["I_3maCwl+V}?",d])) c #["&{nI%%M.0vry6e",c,d] (λx i=>by have:=f.x i;exact#[155,this])
theorem end_none {vars:ae (aC×AV)} (o:0<(Wb U)) (q:(Wb U)<=1000) (u:a<=1000) (L:z9 T R C ls J Y) (F:LV vars) (h:vars.lookup "got"=aa .n) (w:vars.lookup "want"=aa .n):
  ∃fr' σ',fH PR (n+621) z_ ⟨vars,dP⟩ (bz U (a:af) T++GL R C ls Z)=.k (.r (.b ai),fr') σ':=by
 generalize f:bz U a T++GL R C ls Z=I;have x:cS PR (n+621) (.i (.m (.m (.v "got") .Is (.l (.n))) .NotEq (.m (.v "want") .Is (.l (.n)))) [.r (.l (.b aD))] []) ⟨vars,dP⟩ I=.k (.n,⟨vars,dP⟩) I:=
  dB (ef (oi (aO h) bL rfl) (oi (aO w) bL rfl) rfl) (ix cG)
 have y:cS PR (n+621) (.a "asks" (.s [.p [.v "texts",.v "types"]])) ⟨vars,dP⟩ I=.k (.n,⟨bA "asks" (.l (Wb I)) vars,dP⟩) (I++[.l [iE (.l 39,.l 40)]]):=
  dQ (jQ (aS (sQ (aS (aO F.texts) (aS (aO F.types) bu)) rfl) bu) rfl)
 have j:=F.upd "asks" (.l (Wb I)) #[0] #[0] #[0] #[0] #[0] #[0] #[0];have z:cS PR (n+621) (.i (.m (.v "got") .IsNot (.l (.n))) FY []) ⟨bA "asks" (.l (Wb I)) vars,dP⟩ (I++[.l [iE (.l 39,.l 40)]])=.k (.n,⟨bA "asks" (.l (Wb I)) vars,dP⟩) (I++[.l [iE (.l 39,.l 40)]]):=
  dB (ef (aO (b9 h)) bL rfl) (ix cG)
 rw[jl x (λc c c=>IS.noConfusion),jl y (λc c c=>IS.noConfusion),jl z (λc c c=>IS.noConfusion)];have d:(I++[.l [iE (.l 39,.l 40)]])[(Wb I)]?=aa (.l ([((.l 39:AV),(.l 40:AV))].map λe=>.t [e.1,e.2])):=jf;have g:(bA "asks" (.l (Wb I)) vars).lookup "asks"=aa (.l (Wb I)):=bB;generalize bA "asks" (.l (Wb I)) vars=vars' at j g;generalize(Wb I)=l at d g;subst f;rw[aj]at d⊢;exact FX o q u j g d (λe A=>by rw[aL.mp A];exact(DD L).more _) #[0]
end
section
variable {X G Y Z S B:St} {nu:ae aq} {at_:aq} {n a:af} {σ σ1:St} {I:ae aq} {fr fr1:AF} {ns:ae aq} {T T0:ae Row} {xs:ae (ae af)} {U:ae af} {hs:ae (ae (ae af))} {cs:ae (aC×af)} {v tv:AV} {q t:aq} {r:ae (ae af)}
variable {C:ae (aC×AV)}
theorem Of (R:0<(Wb ns)) (S:(Wb ns)<=1000) (V:a<=1000) (L:z9 T0 xs I U hs Y) (F:LV C) (B:(Wb T)<=100000) (E:C.lookup "got"=aa (.i t)) (H:C.lookup "want"=aa v) (K:iC (aa r) v (bz ns (a:af) T++GL xs I U Z))
  (w:je T t) (M:∀q∈bQ T t,vP T q/\CL T q) (A:(bQ T t).length<=900) (W:fF gj ((bQ T t).map (gJ T nt))=r):
  ∃fr' σ',fH PR (n+621) z_ ⟨C,dP⟩ (bz ns (a:af) T++GL xs I U Z)=.k (.r (.b ai),fr') σ':=by
 refine ba (id K) λlw hw o=>?_;have s1:∀σ,cS PR (n+621) (.i (.m (.m (.v "got") .Is (.l (.n))) .NotEq (.m (.v "want") .Is (.l (.n)))) [.r (.l (.b aD))] []) ⟨C,dP⟩ σ=.k (.n,⟨C,dP⟩) σ:=λσ=>dB (r:=aD) (ef (oi (aO E) bL rfl) (oi (aO H) bL (by rw[hw];rfl)) rfl) (ix cG);have s2:cS PR (n+621) (.a "asks" (.s [.p [.v "texts",.v "types"]])) ⟨C,dP⟩ (bz ns a T++GL xs I U Z)=.k (.n,⟨bA "asks" (.l ((GL xs I U Z).length+17)) C,dP⟩) (bz ns a T++(GL xs I U Z++[.l ([(.l 39,.l 40)].map iE)])):=by have:=dQ (P:=PR) (n:=n+620) (s:="asks") (I:=⟨C,dP⟩) (jQ (J:=bz ns (a:af) T++GL xs I U Z) (aS (sQ (aS (aO F.texts) (aS (aO F.types) bu)) rfl) bu) rfl);rw[jH,aj]at this;exact this
 have D:=F.upd "asks" (.l ((GL xs I U Z).length+17)) #[0] #[0] #[0] #[0] #[0] #[0] #[0];have g1:(bA "asks" (.l ((GL xs I U Z).length+17)) C).lookup "got"=aa (.i t):=b9 E;have g2:(bA "asks" (.l ((GL xs I U Z).length+17)) C).lookup "want"=aa v:=b9 H;have g3:(bA "asks" (.l ((GL xs I U Z).length+17)) C).lookup "asks"=aa (.l ((GL xs I U Z).length+17)):=bB;rw[jl (s1 _) (λo o o=>IS.noConfusion),jl s2 (λo o o=>IS.noConfusion)];generalize bA "asks" (.l ((GL xs I U Z).length+17)) C=j at D g1 g2 g3⊢;have x:iC (aa r) v (bz ns a T++(GL xs I U Z++[.l ([(.l 39,.l 40)].map iE)])):=by rw[<-aj];exact zW K _
 have u:uN ns T (GL xs I U Z) (.l 39) (.l 40):=DD L;have y:(bz ns (a:af) T++(GL xs I U Z++[.l ([(.l 39,.l 40)].map iE)]))[37]?=aa (.d (uJ nt)):=rfl;generalize GL xs I U Z=G at g3 x y u⊢;refine d9 (Q2 (n:=n+514) #[2,B] w (λq h=>(M q h).1) #["9}=}bpB1|Jb{T_?",A] y #[0]) λval X N O=>?_;rw[W]at O;have Q:=Ph O (zW x X);rw[aj,aj]at N Q;have T1:er PR (n+618) ⟨j,dP⟩ (.m (.f (.g "_law_read") [.c "tab",.v "got",.v "signs"]) .NotEq (.v "want")) (bz ns a T++(G++[.l ([(.l 39,.l 40)].map iE)]))=.k aD (bz ns a T++(G++([.l ([(.l 39,.l 40)].map iE)]++X))):=
  ef (bU (cC IZ) (aS (gW rfl) (aS (aO g1) (aS (aO D.signs) bu))) (jX N)) (aO g2) Q
 refine qG (Rq (n:=n+577) (I:=ns) (C:=(a:af)) (Z:=X) ((bQ T t).map .i) B (bQ T t) j [(.l 39,.l 40)] (λq h=>(M q h).2) D g3 (by show 1+(bQ T t).length<=10000;exact#["1W?.vX>9GH8PS}M`K",A])) λv2 its e2 l2 a2 F2 k2=>?_;have c3:=wN (n:=n+595) (I:=ns) (C:=(a:af)) (G:=G++([.l ([(.l 39,.l 40)].map iE)]++X)) w.1 w.at #[2,B];have s3:cS PR (n+621) (.i (.m (.v "got") .IsNot (.l (.n))) FY []) ⟨j,dP⟩ (bz ns a T++(G++[.l ([(.l 39,.l 40)].map iE)]))=.k (.n,⟨v2,dP⟩) (bz ns a T++(G++(.l (([((.l 39:AV),(.l 40:AV))]++its).map iE)::X))):=
  dB (ef (aO g1) bL rfl) (nG (aT (dB T1 (ix cG)) (aT (gI (bU (cC Bf) (aS (gW rfl) (aS (aO g1) bu)) (jX c3)) (rL (by rw[az];exact#[139,A])) e2) cG)))
 rw[jl s3 (λo o o=>IS.noConfusion)];refine FX R S V F2 k2 (gk 0) (λe z=>?_) (by rw[ar];exact#["7PpWX0:;43>I1_(e&j{C",A,l2]);rcases b7.mp z with z|z
 ·rw[aL.mp z];exact u.more _
 ·exact Rv (a2 e z)
theorem Rw (hL:0<(Wb ns)) (hl:(Wb ns)<=1000) (ha:a<=1000) (L:z9 T xs I U hs Y) (F:LV C):
  ∃fr' σ',fH PR (n+621) Eg ⟨C,dP⟩ (bz ns (a:af) T++GL xs I U Y)=.k (.r (.b ai),fr') σ':=by
 have Lx:=L.x;have Lh:=L.h;have Ll:=L.l;have Q:=L.n;have Lt:=L.len;refine pR (by
  match xs,Lx with
  |x::xs,_=>exact(lg x xs rfl):∃x0 d,xs=x0::d) λx0 d We=>?_;obtain rfl:=We
 have S:=λx h=>BM x (L.low x h);have Wc:=f_ Lx;refine d9 (NH (n:=n+578) (B:=bz ns (a:af) T++GL (x0::d) I U Y) (C:=39) (I:=41) rfl rfl (aB #[172,Lh,Ll] #[171,Lh,Ll]) (aB #["6fz`|!t6J5voio;2",Lh,Lx] #["oAaHVgqvtO6hSGk",Lh,Lx]) #["8s6u?0KU55OmTs",Lh,Q] (λx h=>by have:=(S x h).1;exact#["1s6sbwff{`y",this]) (λk hk e=>by obtain⟨p,h,rfl,D,V⟩:=L.holes k hk e;have e3:=TS L.laid D;exact dS h D ((Pg (I:=x0::d) (J:=I) (U:=U) p).trans V) e3)) λval m c1 Z=>?_;rw[aj,mQ]at c1 Z;have s1:cS PR (n+621) (.a "want" (.f (.g "_law_words") [.v "texts",.v "holes"])) ⟨C,dP⟩ (bz ns a T++GL (x0::d) I U Y)=.k (.n,⟨bA "want" val C,dP⟩) (bz ns a T++GL (x0::d) I U (Y++m)):=
  dQ (bU (cC GK) (aS (aO F.texts) (aS (aO F.holes) bu)) (jX c1))
 have s2:cS PR (n+621) (.a "got" (.l (.n))) ⟨bA "want" val C,dP⟩ (bz ns (a:af) T++GL (x0::d) I U (Y++m))=.k (.n,⟨bA "got" .n (bA "want" val C),dP⟩) (bz ns (a:af) T++GL (x0::d) I U (Y++m)):=dQ bL;have A:=(F.upd "want" val #[0] #[0] #[0] #[0] #[0] #[0] #[0]).upd "got" .n #[0] #[0] #[0] #[0] #[0] #[0] #[0];have w1:(bA "got" .n (bA "want" val C)).lookup "want"=aa val:=b9 (bB);rw[show Eg=.a "want" (.f (.g "_law_words") [.v "texts",.v "holes"])::.a "got" (.l (.n))::.y [.a "got" (.f (.g "tpl_kind") [.v "host",.v "texts",.v "types"])] "TooDeep" "got"::z_ from rfl,jl s1 (λu0 u0 u0=>IS.noConfusion),jl s2 (λu0 u0 u0=>IS.noConfusion)];generalize bA "got" .n (bA "want" val C)=j at A w1⊢;have hC:iD ([x0],[]):=⟨rfl,λx h=>by rw[aL.mp h];exact(S x0 aH).2,λt h=>bJ h bF⟩
 have E:=TU L.laid;have cw:=GY d [([x0],[])] [x0] (Rt L.laid) Wc (λx h=>(S x (aK _ h)).2) (λo h=>by rw[aL.mp h];exact hC) (λw=>Iff.rfl) rfl (by show 1<=200;decide);have Wd:=λJ'=>ze (J:=[([x0],[])]) (J':=J') 0 3 (λt h=>(E t h).2) (λx h=>by have:=(S x (aK _ h)).1;exact#["9(VYe>xSs",this]) (λo h=>by
  rw[aL.mp h];refine dy (by simp) (bf _) ?_;have:=(S x0 aH).1;have h0:pF [x0]=(Wb x0):=by rw[lQ];rfl
  exact#["7KP7Lc%U}rVWDK!e",this,h0])
 refine ck (QE (n:=n+377) (I:=ns) (C:=(a:af)) (G:=GL (x0::d) I U (Y++m)) (p:=22) (q:=23) #["9}=}bpB2A&hwDcA",Lt] Q (λt h=>(E t h).1) (λx h=>by have:=(S x h).1;exact#["E5$>~IK)Fe",this]) Wc rfl rfl (λJ H=>by
  rcases cw with⟨e,_⟩|⟨J',W',D,V,e3,e4,e5⟩
  ·rw[e]at H;cases H
  ·rw[H]at D;cases D;have sm:=Wd J H;obtain⟨X,m1,m2,O⟩:=Dy J T;refine dy #["9}=}bpB1`VvZ6?U",e5] (λp hp=>?_) ?_
   ·obtain⟨q1,q2,q3⟩:=sm p hp;exact dy q1 #["A8mS3c!^B2Z{|DHNm5q5Ae",Q,q3] #["6A;5mJMz7HGIB<<O1nw",Q,q2]
   ·rw[m1];exact LJ (L.pre.app X) O (by rw[ar];exact#[102,Lt,e5,m2]) e5)) λP s=>?_
 show∃fr' σ',(match dw PR (n+621) [.a "got" (.f (.g "tpl_kind") [.v "host",.v "texts",.v "types"])] ⟨j,dP⟩ (bz ns a T++GL (x0::d) I U (Y++m))with
  |.k (.n,fr) σ=>fH PR (n+621) z_ fr σ
  |.k (.r v,fr) σ=>.k (.r v,fr) σ
  |.x c' σ'=>if(match PR.g "TooDeep" with|some (.c k)=>decide (k=c')|_=>aD)=ai then fH PR (n+621) z_ {v:=bA "got" .n j,c:=dP} σ' else .b
  |.b=>.b)=.k (.r (.b ai),fr') σ'
 unfold Jh at Z;rcases cw with⟨e,e'⟩|⟨J,W,D,V,e3,e4,e5⟩
 ·rw[e]at s;replace s:cg PR (n+377+240) "tpl_kind" [] [.l 16,.l 39,.l 40] (bz ns a T++GL (x0::d) I U (Y++m))=.x "TooDeep" (bz ns a T++(GL (x0::d) I U (Y++m)++P)):=s;have ex:dw PR (n+621) [.a "got" (.f (.g "tpl_kind") [.v "host",.v "texts",.v "types"])] ⟨j,dP⟩ (bz ns a T++GL (x0::d) I U (Y++m))=.x "TooDeep" (bz ns a T++(GL (x0::d) I U (Y++m)++P)):=
   Bd (S5 rfl (HB (cC Bg) (aS (aO A.host) (aS (aO A.texts) (aS (aO A.types) bu))) (Pb s)))
  rw[ex];show∃fr' σ',(if decide ("TooDeep"="TooDeep")=ai then fH PR (n+621) z_ ⟨bA "got" .n j,dP⟩ (bz ns a T++(GL (x0::d) I U (Y++m)++P))else .b)=_;rw[aF (aI rfl),mQ];have hv:val=.n:=by have e':me [(x0::d).headD []] hs (List.drop 1 (x0::d))=ah:=e';rw[e']at Z;exact Z
  exact end_none hL hl ha L (A.upd "got" .n #[0] #[0] #[0] #[0] #[0] #[0] #[0]) (bB) (b9 (by rw[w1,hv]))
 ·rw[D]at s;have sm:=Wd J D;refine cV (Dy J T) λX m1 m2 O=>?_;have hP:=L.pre.app X;have Wf:(T++X).length<=10000:=by rw[ar];exact#[102,Lt,e5,m2]
  replace s:_=R.k (AV.i (cH (i8 T J).2 (i8 T J).1).1) (bz ns a (cH (i8 T J).2 (i8 T J).1).2++(GL (x0::d) I U (Y++m)++P)):=s;rw[m1]at s;generalize hM:(i8 T J).1=M at s O;have Wg:=O.len;have H:∀o∈J,iD o/\tY o:=λo N=>by refine iK (sm o N) λq1 q2 q3=>?_;exact⟨e3 o N,#["3M5Ece6k}Oqp*6s.S",Q,q2],#["L8b{`uh}_3T}nO=<&'",Q,q3]⟩
  refine wi (wV hP O) λY3 K u1 u2 u3 u4 u5 u6 u7=>?_;have rd:=N0 hP O e3 e4;have pt:=λq=>N1 (q:=q) hP O H;have hU:(cH (T++X) M).2.length<=100000:=by rw[u1,ar];exact#["8fapRrxOYl{KHpq$$0QpA",Wf,u2]
  have N:iC (aa (CF W)) val (bz ns a T++GL (x0::d) I U (Y++m)):=by have V:me [(x0::d).headD []] hs (List.drop 1 (x0::d))=aa W:=V;rw[V]at Z;exact Z
  have N:=LQ (T':=(cH (T++X) M).2) (λe=>by have:=L.pre.len;rw[e]at this;simp at this) N P;have z:(bQ (cH (T++X) M).2 (cH (T++X) M).1).length<=900:=by rw[u3];exact#["T8tWL3xYHYkl=d9JqN=Qic",e5,Wg,u6]
  generalize cH (T++X) M=u at s u1 u3 u4 rd pt hU N z;replace s:cg PR (n+377+240) "tpl_kind" [] [.l 16,.l 39,.l 40] (bz ns a T++GL (x0::d) I U (Y++m))=.k (.i u.1) (bz ns a u.2++(GL (x0::d) I U (Y++m)++P)):=s;have ex:dw PR (n+621) [.a "got" (.f (.g "tpl_kind") [.v "host",.v "texts",.v "types"])] ⟨j,dP⟩ (bz ns a T++GL (x0::d) I U (Y++m))=.k (.n,⟨bA "got" (.i u.1) j,dP⟩) (bz ns a u.2++(GL (x0::d) I U (Y++m)++P)):=
   aT (dQ (bU (cC Bg) (aS (aO A.host) (aS (aO A.texts) (aS (aO A.types) bu))) (jX s))) cG
  rw[ex];rw[mQ]at N⊢;exact Of hL hl ha L (A.upd "got" (.i u.1) #[0] #[0] #[0] #[0] #[0] #[0] #[0]) hU (bB) (b9 w1) N u4 (λq hq=>by have hh:=pt q hq;exact dy hh.1 hh.1.1 (λhk=>by refine ba (hh.2 hk) λp p1 p2=>?_;exact dS p ((H p p1).1) ((H p p1).2) p2)) z rd
end
end
section
open PySem PyProof.Rows
theorem Rx (nu:ae aq):fH PR 621 (pX.b.take 4) ⟨[("take",tk)],dP⟩ [.l (nu.map .i),.l [.i 0],.c (aa (.l 0)),.c (aa (.l 1)),.c ah]=.k (.n,⟨p5,dP⟩) (bz nu 0 R0++G0):=by kernel_rfl!
theorem Ry {P:Prog} {n:af} (b:ae IS):∀(a:ae IS) (fr fr1:AF) (σ σ1:St),(∀s∈a,∀t c x,s≠.y t c x)->fH P n a fr σ=.k (.n,fr1) σ1->fH P n (a++b) fr σ=fH P n b fr1 σ1:=by
 intro d;induction d with
 |nil=>
  intro fr fr1 σ σ1 _ h;have h:=h;injection h with f i
  injection f with _ f
  clear h;subst f i;rfl
 |cons s a g=>
  intro fr fr1 σ σ1 hs h;have j:=hs s aH;have e:∀ss,fH P n (s::ss) fr σ=(match cS P n s fr σ with|.k (.n,fr) σ=>fH P n ss fr σ|.k (.r v,fr) σ=>.k (.r v,fr) σ|_=>.b):=λss=>by clear h hs;induction s using uZ with|y t c x=>exact bJ rfl (j t c x)|_=>rfl
  rw[e]at h;rw[mL,e]
  match cS P n s fr σ,h with|.k (.n,fr2) σ2,h=>exact g fr2 fr1 σ2 σ1 (λs q=>hs s (aK _ q)) h
theorem TV {ns:ae aq} (d:0<(Wb ns)) (f:(Wb ns)<=1000):∃fr' σ',fH PR 621 pX.b ⟨[("take",tk)],dP⟩ [.l (ns.map .i),.l [.i 0],.c (aa (.l 0)),.c (aa (.l 1)),.c ah]=.k (.r (.b ai),fr') σ':=by rw[Rr,Ry _ _ _ _ _ _ (λs hs t c x=>by simp only[show pX.b.take 4=[_,_,_,_]from rfl,bw,bF,jM]at hs;rcases hs with rfl|rfl|rfl|rfl<;>exact IS.noConfusion) (Rx _)];refine rY (TR (n:=400) Eg d f) λa h T xs ts ls hs j e F g L=>?_;rw[e];exact Rw d f #["~^q+(vL!DNRIxm",g] L F
end
section
open PySem PySem.W PySem.Calls PyProof.Rows
noncomputable def rO:au et->ae et:=EF [] λa a b a a=>b
noncomputable def t5:au et->Arguments:=EF default λb a b b b=>a
noncomputable def p8:au et->Scope:=EF default λa a a sc a=>sc
noncomputable def Pp:au et->bD:=EF aD λa a a a a=>ai
noncomputable def TX (sc:Scope) (ps cs:ae aC):bD:=
 decide ps.Nodup&&decide cs.Nodup&&(ps.all λp=>sc.names.lookup (aZ p)==aa (if cs.contains p then r_ else .local))&&(sc.names.all λx=>x.2!=.free)&&
  sc.kind==.function&&!sc.isCoroutine&&!sc.isGenerator
noncomputable def VA (st:au et) (ds:ae AV):au (FD×bD):=(Vb (t5 st) (rO st) (p8 st) ds).map λfd=>(fd,Pp st&&TX (p8 st) fd.p fd.c)
structure FRow where
 nm:aC
 ad:bh
 st:au et
 cd:bh
 dV:aE
 dv:ae aE
 pm:aE
 fd:FD
noncomputable def FRow.fn (r:FRow):FuncData:=AG r.st r.nm r.cd r.dV r.pm
noncomputable def HT:ae aE->ae AV
 |.int i _::r=>.i i::HT r
 |_=>[]
noncomputable def FRow.fits (r:FRow) (k:af):bD:=(r.fd.p.length-r.dv.length).ble k&&k.ble r.fd.p.length
noncomputable def FRow.want (r:FRow) (us:ae aE):ae (cI×aE):=(r.fd.p.map aZ).zip (us++r.dv.drop (r.dv.length+us.length-r.fd.p.length))
noncomputable def FRow.few (r:FRow) (k:af):bD:=!r.fd.c.isEmpty&&r.fd.p.length==k
noncomputable def rows:ae FRow:=[
 ⟨"TypeTable.__init__",100,oc 38 0,99,.none,[],pT,sE⟩,
 ⟨"TypeTable.row",107,oc 38 1,106,.none,[],pT,fd_TypeTable_row⟩,
 ⟨"TypeTable.put",114,oc 38 2,113,.none,[],pT,fd_TypeTable_put⟩,
 ⟨"kind_of",128,fQ 39,127,.none,[],pT,fd_kind_of⟩,
 ⟨"str_type",136,fQ 40,135,.ref 129,[.int 0 405],pT,fd_str_type⟩,
 ⟨"num_type",144,fQ 41,143,.ref 137,[.int 0 415],pT,fd_num_type⟩,
 ⟨"member_type",152,fQ 42,151,.ref 145,[.int 0 425],pT,vK⟩,
 ⟨"new_param",160,fQ 43,159,.ref 153,[.int (-1) 438,.int (-1) 440],pT,xS⟩,
 ⟨"parts_of",167,fQ 44,166,.none,[],pT,fd_parts_of⟩,
 ⟨"whole_of_row",174,fQ 45,173,.none,[],pT,fd_whole_of_row⟩,
 ⟨"regular_twin",181,fQ 46,180,.none,[],pT,fd_regular_twin⟩,
 ⟨"join_bools",188,fQ 47,187,.none,[],pT,fd_join_bools⟩,
 ⟨"stays_beside",195,fQ 48,194,.none,[],pT,fd_stays_beside⟩,
 ⟨"top_of",202,fQ 49,201,.none,[],pT,fd_top_of⟩,
 ⟨"union",207,fQ 50,206,.none,[],pT,fd_union⟩,
 ⟨"is_open",215,fQ 55,214,.none,[],pK,fd_is_open⟩,
 ⟨"unit_word",222,fQ 56,221,.none,[],pK,fd_unit_word⟩,
 ⟨"digits_back",229,fQ 57,228,.none,[],pK,fd_digits_back⟩,
 ⟨"glue",236,fQ 58,235,.none,[],pK,fd_glue⟩,
 ⟨"hole_pieces",243,fQ 59,242,.none,[],pK,fd_hole_pieces⟩,
 ⟨"cross_holes",250,fQ 60,249,.none,[],pK,fd_cross_holes⟩,
 ⟨"one_template",257,fQ 61,256,.none,[],pK,fd_one_template⟩,
 ⟨"tpl_kind",264,fQ 62,263,.none,[],pK,fd_tpl_kind⟩,
 ⟨"cut_holes",271,fQ 63,270,.none,[],pK,fd_cut_holes⟩,
 ⟨"tpl_match",278,fQ 64,277,.none,[],pK,fd_tpl_match⟩,
 ⟨"Thin.__init__",292,oc 67 0,291,.none,[],pH,xT⟩,
 ⟨"Thin.force",299,oc 67 1,298,.none,[],pH,fd_Thin_force⟩,
 ⟨"_law_texts",404,fQ 69,403,.none,[],pL,fd_law_texts⟩,
 ⟨"_law_bits",411,fQ 70,410,.none,[],pL,fd_law_bits⟩,
 ⟨"_law_stock",418,fQ 71,417,.none,[],pL,xU⟩,
 ⟨"_law_hole",423,fQ 72,422,.none,[],pL,fd_law_hole⟩,
 ⟨"_law_words",428,fQ 73,427,.none,[],pL,fd_law_words⟩,
 ⟨"_law_read",435,fQ 74,434,.none,[],pL,fd_law_read⟩,
 ⟨"_law_number",442,fQ 75,441,.none,[],pL,fd_law_number⟩,
 ⟨"_law_cut",449,fQ 76,448,.none,[],pL,fd_law_cut⟩,
 ⟨"_law_want",456,fQ 77,455,.none,[],pL,fd_law_want⟩,
 ⟨"_law_fill",463,fQ 78,462,.none,[],pL,fd_law_fill⟩]
noncomputable def Jx (c:bh):au cI:=(wu.lookup c).bind λ
 |.str s _=>aa s
 |_=>ah
noncomputable def FRow.ok (r:FRow):bD:=(HT r.dv).length==r.dv.length&&r.dv.length.ble r.fd.p.length&&r.fd.p.length.ble 5&&(r.fd.c.isEmpty||(r.dv.isEmpty&&(r.fd.p.length==2||r.fd.p.length==3)))
theorem Rz:rows.map (λr=>VA r.st (HT r.dv))=rows.map (λr=>aa (r.fd,ai)):=by kernel_rfl!
theorem Og:rows.map (λr=>PR.f r.nm)=rows.map (λr=>aa r.fd):=by kernel_rfl!
theorem TY (P:eI):rows.map (λr=>(KF P).lookup r.ad)=rows.map (λr=>aa (uA r.fn)):=by kernel_rfl!
theorem RA:rows.map (λr=>Jx r.cd)=rows.map (λr=>aa (S r.nm)):=by kernel_rfl!
theorem RB:rows.map FRow.ok=rows.map λa=>ai:=by kernel_rfl!
noncomputable abbrev ot (P:eI) (s:pP) (us:ae aE):Prop:=rows.map (λr=>if r.fits us.length then peek (KF P) s (pd r.fn ⟨us,[]⟩)else ah)=rows.map (λr=>if r.fits us.length then aa (r.want us)else ah)
theorem VB (P:eI) (s:pP):ot P s []:=by unfold ot;kernel_rfl!
theorem VC (P:eI) (s:pP) (a:aE):ot P s [a]:=by unfold ot;kernel_rfl!
theorem VD (P:eI) (s:pP) (a b:aE):ot P s [a,b]:=by unfold ot;kernel_rfl!
theorem VE (P:eI) (s:pP) (a b c:aE):ot P s [a,b,c]:=by unfold ot;kernel_rfl!
theorem VF (P:eI) (s:pP) (a b c d:aE):ot P s [a,b,c,d]:=by unfold ot;kernel_rfl!
theorem VG (P:eI) (s:pP) (a b c d e:aE):ot P s [a,b,c,d,e]:=by unfold ot;kernel_rfl!
noncomputable abbrev x_ (us:ae aE):Prop:=rows.map (λr=>if r.few us.length then pd r.fn ⟨us,[]⟩else pure [])=rows.map (λr=>if r.few us.length then pure ((r.fd.p.map aZ).zip us)else pure [])
theorem UM (a b:aE):x_ [a,b]:=by unfold x_;kernel_rfl!
theorem UN (a b c:aE):x_ [a,b,c]:=by unfold x_;kernel_rfl!
end
section
open PySem PySem.W PySem.Calls PyProof.Rows
variable {h:dj} {I:Type}
theorem qW {f g:FRow->I} (h:rows.map f=rows.map g) {r:FRow} (m:r∈rows):f r=g r:=List.map_inj_left.mp h r m
theorem Jy {st:au et} {q:aC} {cd:bh} {dV pm:aE} (h:Pp st=ai):∃n,AG st q cd dV pm={name:=n,qualname:=S q,params:=t5 st,body:=.stmts (rO st),scope:=p8 st,globals:=kH,closure:=[],defaults:=dV,kwdefaults:=.none,pyModule:=pm,code:=.ref cd,builtins:=builtinsNs}:=by
 rcases st with _|s
 ·exact ff h
 ·rcases s with⟨⟩<;>first|exact ff h|exact⟨_,rfl⟩
theorem HU:∀{l:ae aE},(HT l).length=l.length->EJ (HT l) l
 |[],_=>.nil
 |v::r,h=>by induction v using iu with|int i t=>exact .int (HU (f_ h))|_=>exact nomatch (show 0=r.length+1 from h)
noncomputable def FZ:ae (aC×bh):=[("TooDeep",60),("TypeTable",117),("Thin",393)]
noncomputable def p9 (prog:Program) (w:fb) (h:dj):Cfg:={prog,w,P:=PR,h₀:=h,fa:=λf=>(rows.find? λr=>r.nm==f).map (·.ad),ca:=λk=>FZ.lookup k,K:=KF w.params}
theorem BN (C:B_ h) {c:bh} {q:cI} (e:Jx c=aa q):h.CodeRec (.ref c) q:=by
 refine ba (fv.mp e) λv b d=>?_;have m:=C (c,v) (ei b);refine ba (fv.mp m) λo f a=>?_;clear b m;induction v using iu with
 |str s t=>
  cases d;split at a
  ·exact pn c o _ t rfl f (by assumption) a
  ·cases a
 |_=>cases d
theorem ou {β:Type} [BEq I] [uT I] {p:I×β->bD} {l:ae (I×β)} (h:l.all p=ai) {x:I} {v:β} (e:l.lookup x=aa v):p (x,v)=ai:=cy.mp h _ (ei e)
theorem Oh {P:eI} (X:(KF P).In h) {r:FRow} (m:r∈rows) {s:aM} {us:ae aE} (k:∀a o,h.get? a=aa o->s.heap.get? a=aa o) (i:r.fits us.length=ai) (g:us.length<=5):BindsTo s r.fn ⟨us,[]⟩ (r.want us):=by
 refine kp_binds (X.keeps k) λst=>?_;have q:∀{us:ae aE},ot P st us->r.fits us.length=ai->peek (KF P) st (pd r.fn ⟨us,[]⟩)=aa (r.want us):=λb f=>by
  have:=qW b m
  rwa [aF f,aF f]at this
 match us,i,g with|[],f,_=>exact q (VB P st) f|[a],f,_=>exact q (VC P st a) f|[a,b],f,_=>exact q (VD P st a b) f|[a,b,c],f,_=>exact q (VE P st a b c) f|[a,b,c,d],f,_=>exact q (VF P st a b c d) f|[a,b,c,d,e],f,_=>exact q (VG P st a b c d e) f|_::_::_::_::_::_::_,_,g=>simp at g
theorem UO {prog:Program} {w:fb} (X:(KF w.params).In h) (C:B_ h) {r:FRow} (m:r∈rows):tL (p9 prog w h) r.nm r.fn r.fd (rO r.st):=by
 have i:=qW Rz m;have E:=qW RA m;have z:=qW RB m;refine ba (bK.mp i) λF i j=>?_;refine dp (eK j) λf j=>?_;obtain rfl:=f;refine dp (br.mp j) λhd A=>?_;refine ba (fv.mp i) λps R i=>?_;refine ba (fv.mp i) λcs G i=>?_;refine ba (fv.mp i) λb H i=>?_;have l:=(aw i).symm;clear i;simp only[TX,FRow.ok,cB,Bool.or_eq_true,el,dM,eh,B2,cy]at A z;refine dp A ?_;clear A;intro f I;obtain⟨⟨⟨⟨⟨f1,f2⟩,J⟩,K⟩,L⟩,M⟩:=f;refine dp z ?_;clear z;intro f o;obtain⟨⟨g1,g2⟩,g3⟩:=f;refine ck (Jy (q:=r.nm) (cd:=r.cd) (dV:=r.dV) (pm:=r.pm) hd) λn N=>?_;have t:r.fn=_:=N;rw[t];have u:r.fd.d=HT r.dv:=by rw[l]
 have O:r.fd.d.length=r.dv.length:=by rw[u];exact g1
 refine⟨qW Og m,rfl,?_,?_,f1,J,aY r.dv (u▸HU g1) (λs us k B P=>?_),?_,λx Q=>?_,L,M,I,rfl,rfl,BN C E⟩
 ·rw[H,l]
 ·rw[G,l]
 ·have y:r.fits us.length=ai:=by
   unfold FRow.fits;rw[cB];exact⟨B2.mpr #["W!X59AM:j=:to7E",P,ag g2],B2.mpr B⟩
  have:=Oh X m k y (dI B g3)
  rwa [t]at this
 ·rcases o with o|⟨o,v⟩
  ·exact .inl (fm.mp o)
  ·have o:=fm.mp o;rcases D:r.fd.c.isEmpty with _|_
   ·refine .inr (jB rfl (by rw[u,o];rfl) f2 (λus g=>?_));have q:∀{vs:ae aE},x_ vs->r.fd.p.length=vs.length->pd r.fn ⟨vs,[]⟩=pure ((r.fd.p.map aZ).zip vs):=λ{vs} b e=>by
     have w:r.few vs.length=ai:=by unfold FRow.few;rw[D,e];exact fk _
     have:=qW b m
     rwa [aF w,aF w]at this
    rw[<-t]
    match us,g with|[a,b],g=>exact q (UM a b) g.symm|[a,b,c],g=>exact q (UN a b c) g.symm|[],g=>rw[<-g]at v;simp at v|[_],g=>rw[<-g]at v;simp at v|_::_::_::_::_,g=>rw[<-g]at v;simp at v
   ·exact .inl (fm.mp D)
 ·exact bJ (K _ (ei Q)) eT
end
section
set_option genInjectivity true
open PySem PySem.W PySem.Calls PyProof.Rows
noncomputable def Pq (o:fK):ae aE:=match o.data with|.seq us _=>us.toList|_=>[]
noncomputable def F5 (o:fK):bD:=o.cls==.type "tuple"&&o.dict.isNone&&o.slots.isEmpty&&(match o.data with
 |.seq _ _=>ai
 |_=>aD)
theorem TZ {o:fK} (h:F5 o=ai):∃n,o=r5 (Pq o) n:=by obtain⟨c,d,b,sl⟩:=o;simp only[F5,cB]at h;refine dp h ?_;clear h;intro a e;obtain⟨⟨f,g⟩,i⟩:=a;cases b with|seq us n=>obtain rfl:c=_:=eh.mp f;obtain rfl:d=ah:=jc.mp g;obtain rfl:sl=#[]:=Array.isEmpty_iff.mp i;exact⟨n,rfl⟩|_=>cases e
noncomputable def Eh (u:aE) (p:bh->bD):bD:=match u with|.ref a=>p a|_=>aD
theorem F6 {u:aE} {p:bh->bD} (h:Eh u p=ai):∃a,u=.ref a/\p a=ai:=by induction u using iu with|ref a=>exact aY a rfl h|_=>cases h
mutual
noncomputable def CM (K:Frag):AV->aE->bD
 |.i i,u=>(match u with|.int j _=>decide (i=j)|_=>aD)
 |.s x,u=>(match u with|.str s _=>decide (s.cps.toList=x)|_=>aD)
 |.t vs,u=>Eh u λa=>(K.lookup a).any λo=>F5 o&&Ei K vs (Pq o)
 |.f f,u=>Eh u λa=>decide ((rows.find? λr=>r.nm==f).map (·.ad)=aa a)
 |.c k,u=>Eh u λa=>decide (FZ.lookup k=aa a)
 |.u i,u=>u==.builtin i
 |.y i,u=>u==.type i
 |_,_=>aD
noncomputable def Ei (K:Frag):ae AV->ae aE->bD
 |[],us=>us.isEmpty
 |v::vs,us=>(match us with|u::r=>CM K v u&&Ei K vs r|[]=>aD)
end
section
variable {C:Program} {w:fb} {h:dj}
theorem Pr (X:(KF w.params).In h):∀(v:AV) {u:aE},CM (KF w.params) v u=ai->VR (p9 C w h) [] h v u:=by
 intro v;refine AV.rec (motive_1:=λv=>∀{u:aE},CM (KF w.params) v u=ai->VR (p9 C w h) [] h v u) (motive_2:=λvs=>∀{us:ae aE},Ei (KF w.params) vs us=ai->fq (p9 C w h) [] h vs us)
  (λh=>ff h) (λ_ {_} h=>ff h) (λi {u} e=>?_) (λx {u} e=>?_) (λvs g {u} e=>?_) (λ_ {_} h=>ff h) (λ_ _ {_} h=>ff h) (λ_ _ {_} h=>ff h) (λf {u} e=>?_) (λk {u} e=>?_) (λi {u} e=>?_) (λt {u} e=>?_) (λ{us} e=>?_) (λv vs i1 l {us} e=>?_) v
 ·induction u using Value.casesOn with|int j t=>exact bC e▸.int i t|_=>exact ff e
 ·induction u using Value.casesOn with|str s t=>exact bC e▸.str _ t|_=>exact ff e
 ·refine ba (F6 e) λa c b=>?_;clear e;refine dq c ?_;refine ba ((rX _ _).mp b) λo q b=>?_;refine dp (br.mp b) λb d=>?_;refine ck (TZ b) λn m=>?_;exact .tup ((X _ _ q).trans (aU aa m)) (g d)
 ·exact(F6 e).elim λa q=>q.1▸.fn (bC q.2)
 ·exact(F6 e).elim λa q=>q.1▸.cls (bC q.2)
 ·exact eh.mp (show(u==.builtin i)=ai from e)▸.bi i
 ·exact eh.mp (show(u==.type t)=ai from e)▸.ty t
 ·exact fm.mp (show us.isEmpty=ai from e)▸.nil
 ·induction us using aV with|nil=>exact ff e|cons u r=>refine dp (br.mp (show(CM (KF w.params) v u&&Ei (KF w.params) vs r)=ai from e)) λb d=>?_;exact .cons (i1 b) (l d)
end
noncomputable def vT (P:eI):bZ ew:=match(KF P).lookup 3 with|some o=>(match o.data with|.dict es _=>es|_=>#[])|none=>#[]
noncomputable def LR (P:eI) (p:aC×AV):bD:=match B3 (vT P) (S p.1)with
 |some u=>CM (KF P) p.2 u
 |none=>(match bootBuiltins (S p.1)with
  |some u=>CM (KF P) p.2 u&&S p.1!="__name__"
  |none=>aD)
theorem Oi (P:eI):O8.all (LR P)=ai:=by kernel_rfl!
noncomputable def F7:aE->bD
 |.str _ _=>ai
 |_=>aD
theorem LS (P:eI):(vT P).toList.all (λe=>F7 e.key)=ai:=by kernel_rfl!
theorem RC (P:eI):(KF P).lookup 3=aa {cls:=.type "dict",data:=.dict (vT P) (match(KF P).lookup 3 with|some ⟨_,_,.dict _ n,_⟩=>n|_=>0)}:=by kernel_rfl!
end
section
open PySem PySem.W PySem.Calls PyProof.Rows
theorem Oj (P:eI):StrKeys (vT P):=λe m=>by have q:=cy.mp (LS P) e (sf.mp m);revert q;cases e.key with|str s t=>exactλa=>lg s t rfl|_=>exactλq=>nomatch q
theorem Aa {k:aC} {C:bh} (e:FZ.lookup k=aa C):(k="TooDeep"/\C=60)\/(k="TypeTable"/\C=117)\/(k="Thin"/\C=393):=by have m:=ei e;simpa[FZ]using m
noncomputable def BO (P:eI) (C:bh):bD:=plainGet (KF P) C ""&&hasDictIn (KF P) C&&v7 (KF P) (.ref C) "__setattr__"==aa (aa (.builtin "object.__setattr__"))&&plainOver (KF P) C&&makesIn (KF P) C
theorem LU (P:eI):BO P 117=ai:=by kernel_rfl!
theorem F8 (P:eI):BO P 393=ai:=by kernel_rfl!
theorem Ol (P:eI):FZ.all (λp=>keepIn (KF P) (.ref p.2))=ai:=by kernel_rfl!
theorem RD (P:eI):FZ.all (λp=>(PR.s p.1).all λx=>!PR.x p.1&&v7 (KF P) (.ref p.2) (aZ x)==aa ah)=ai:=by kernel_rfl!
theorem Om (P:eI):O9.all (λm=>(FZ.lookup m.1.1).any λC=>((rows.find? λr=>r.nm==m.2).map (·.ad)).any λa=>v7 (KF P) (.ref C) (aZ m.1.2)==aa (aa (.ref a))&&typeIn (KF P) (.ref a)==aa (.type "function"))=ai:=by kernel_rfl!
theorem HV {w:fb} {h:dj} {p:Program} {loose:ae cI} {c:ExcName->au aE} {s j:cI->au aE} (Y:m5.says w h) (T:pg p loose c s j h) {prog:Program}:gL (p9 prog w h) where
 glob:=λx v e=>by
  have m:=ou (Oi w.params) e;have t:h.Ns kH λn=>B3 (vT w.params) n:=tG _ _ _ (Y.1 _ _ (RC _)) rfl (Oj _) (λg=>rfl);refine⟨_,j,t,T.b,?_⟩;unfold LR at m;dsimp only at m;cases q:B3 (vT w.params) (S x)with
  |some u=>rw[q]at m;exact⟨u,.inl rfl,Pr Y.1 _ m⟩
  |none=>rw[q]at m;cases b:bootBuiltins (S x)with|none=>rw[b]at m;cases m|some u=>rw[b]at m;refine dp (br.mp m) λy B=>?_;exact⟨u,.inr ⟨rfl,(T.builtins _ (oz.mp B)).trans b⟩,Pr Y.1 _ y⟩
 lim:=T.nolimit
 sm:=ba Y.2.2 λo e g=>⟨o,e⟩
 inK:=Y.1
 cls:=λk C e d=>by
  have q:BO w.params C=ai:=by
   rcases Aa e with⟨rfl,rfl⟩|⟨rfl,rfl⟩|⟨rfl,rfl⟩
   ·cases d
   ·exact LU _
   ·exact F8 _
  unfold BO at q;simp only[cB,eh]at q;exact jB q.1.1.1.1 q.1.1.1.2 q.1.1.2 q.1.2
 fld:=λk C x e d=>by have q:=ou (RD w.params) e;have q:=cy.mp q x (pN.mp d);simp only[cB,eh,el]at q;exact q
 meth:=λk C x f e D=>by have q:=ou (Om w.params) D;refine ba ((rX _ _).mp q) λI E q=>?_;refine ba ((rX _ _).mp q) λa F q=>?_;cases e.symm.trans E;simp only[cB,eh]at q;exact aY a F q
 make:=λk C f e d g=>by
  have q:BO w.params C=ai:=by
   rcases Aa e with⟨rfl,rfl⟩|⟨rfl,rfl⟩|⟨rfl,rfl⟩
   ·cases d
   ·exact LU _
   ·exact F8 _
  exact(br.mp q).2
 keep:=λk C e=>ou (Ol w.params) e
 sorts:=λA z vs us G g X r=>M6 (ba Y.2.2 λo e g=>⟨o,e⟩) G X r
 fns:=λf a e=>by refine ba (bK.mp e) λr l i=>?_;clear e;refine dH i ?_;have m:=List.mem_of_find?_eq_some l;have H:=List.find?_some l;obtain rfl:r.nm=f:=eh.mp H;exact mM _ _ _ (Y.1 _ _ (qW (TY _) m)) (UO Y.1 Y.2.1 m)
end
section
open PySem PySem.W PySem.Calls PyProof.Rows Builtin Builtin.ObjectAttr
section
variable {J:Program} {w:fb} {A:cQ} {E:aE->aM->Prop} {P:eI}
theorem RE (P:eI):v7 (KF P) (.ref 60) "__setattr__"=aa (aa (.builtin "object.__setattr__")):=by kernel_rfl!
theorem HW (P:eI):(clsIn (KF P) 60).map (λa=>(a.mro,a.hasDict))=aa ([.ref 60,.ref 39,.type "Exception",.type "BaseException",.type "object"],ai):=by kernel_rfl!
theorem DE (P:eI):[S "number",S "text"].map (yW (KF P) 60)=[aa ah,aa ah]:=by kernel_rfl!
theorem On (self:aE):refuseLoop self "__setattr__" [.ref 60,.ref 39,.type "Exception",.type "BaseException",.type "object"]=pure ():=by rw[refuseLoop_ref,refuseLoop_ref,PySem.F.store_Exception.passes]
variable {s:aM} {x:bh} {C:cI} {v:aE}
theorem RF {l:fK} {m:au fK} {tk:Tok} {R:v_->aM->Prop} (X:(KF P).In s.heap) (I:InstAt s.heap x l 60 m) (n:yW (KF P) 60 C=aa ah)
  (h:∀b,bp (model J w) A.in1 (storeInOwnDict (.ref x) (.ref 60) (.str C tk) C v b)
   (λfin s'=>match fin with|.done f=>R (.ok f) s'|.again i=>i.quiet=ai/\lB (model J w) A i R s') (λe s'=>R (.error e) s') s):
  lB (model J w) A (.call (.builtin "object.__setattr__") ⟨[.ref x,.str C tk,v],[]⟩) R s:=by
 have c:=PySem.F.store_object;refine ba (bK.mp (HW P)) λo j d=>?_;refine dp (eK d) λd hd=>?_;have sub:Looks (model J w) s.heap (isInstance (.ref x) (.type "object")) ai:=I.type.andThen (looks_mroIn X (by unfold mroIn;rw[j,Option.bind_some,d];rfl));refine codeAny_call_builtin c.slot.plain c.entry (@check_slot (model J w) _ _ s "object.__setattr__" "object" "__setattr__" (.ref x) [.str C tk,v] [] _ c.kind c.split sub (c.args (.ref x) (.str C tk) v) ?_);refine ba (fv.mp n) λattr k p=>?_;have g:Looks (model J w) s.heap (mroOf (.ref 60)) o.mro:=(zj X j).andThen .now;have L3:Looks (model J w) s.heap (storeTaker? attr) ah:=by
  clear k;induction attr using cX with
  |none=>exact .now
  |some a=>refine ba (bK.mp p) λb q e=>?_;refine(looks_takesIn X q).andThen ?_;induction b using b_ with|true=>cases e|false=>exact .now
 rw[osa_eq,refuse_eq];refine aA (aA (I.type.here (aA (g.here ?_))));rw[d,On];exact aW (aA (I.type.here (aA ((looks_findIn X k).here (aA (L3.here (h _)))))))
structure T6 (h₁ h:dj) (x t:bh) (n:af):Prop where
 keep:∀a o,a≠x->h₁.get? a=aa o->h.get? a=aa o
 obj:∃od,h.get? x=aa {cls:=.ref 60,dict:=od,data:=.fields #[.ref t,.none,.none,.none,.bool aD,.none]}/\
  (od=ah\/∃dx m ns,od=aa dx/\h₁.get? dx=ah/\dx≠x/\h.Ns1 dx m/\Within m ns/\ns.length<=n)
theorem DF {c:dj} {t:bh} {n:af} {Q:dt->aM->Prop} (X:(KF P).In c) (T:(KF P).lookup x=ah) (I:T6 c s.heap x t n) (U:n<=100) (V:yW (KF P) 60 C=aa ah)
  (G:∀h' tk,T6 c h' x t (n+1)->Q () {s with heap:=h',toks:=tk}):bp (model J w) A (setAttr (.ref x) C v) Q E s:=by
 refine ba I.obj λW d hd=>?_;have r:=λa o e=>I.keep a o (λq=>by rw[q,T]at e;cases e) (X a o e);refine ba (bK.mp (HW P)) λcd Y Z=>?_;refine dp (eK Z) λK u=>?_;refine ck (by
  rcases hd with rfl|⟨L,m,ns,rfl,_,_,⟨y,es,ep,l,z⟩,_⟩
  ·exact⟨ah,d,rfl,rfl,trivial⟩
  ·exact⟨aa y,d,rfl,rfl,l⟩:∃M,InstAt s.heap x {cls:=.ref 60,dict:=W,data:=.fields #[.ref t,.none,.none,.none,.bool aD,.none]} 60 M) λM N=>?_
 refine set_plain r N (RE P) (RF r N V λb=>?_);refine aA (aW (aA (aA (v9 d (aA (Looks.here (zj r Y) ?_))))));rw[u];rcases hd with rfl|⟨L,m,ns,rfl,l,z,h4,O,R⟩
 ·have g:=j2 (jn d);have k:(s.heap.push {cls:=.type "dict",data:=.dict #[]}).get? x=aa {cls:=.ref 60,data:=.fields #[.ref t,.none,.none,.none,.bool aD,.none]}:=bN _ d;have up:∀b,b≠x->((s.heap.push {cls:=.type "dict",data:=.dict #[]}).update x λo=>{cls:=o.cls,dict:=aa s.heap.objs.size,data:=o.data,slots:=o.slots}).get? b=(s.heap.push {cls:=.type "dict",data:=.dict #[]}).get? b:=λb hb=>m7 _ _ _ _ hb;have B:((s.heap.push {cls:=.type "dict",data:=.dict #[]}).update x λo=>{cls:=o.cls,dict:=aa s.heap.objs.size,data:=o.data,slots:=o.slots}).Ns s.heap.objs.size (λK=>ah):=
   tG _ (#[]) _ ((up _ g.symm).trans (Heap.get?_push_at rfl rfl)) rfl (λe he=>bJ he (by simp)) (λK=>rfl)
  refine aA (wpAny_alloc' (aA (wpAny_update' k (aW ?_))));refine aA (aW (aA (wpAny_nsSet1 (Heap.Ns1.of_empty B) λh' f hs=>?_)));refine lq (f.count (vl C v Within.nil)) λoD D F h i j=>?_;refine aA (ue h (by rw[i];exact uf (dI j (by rw[aQ,cR,zk];exact#["A:oGqZMy35LM"]))) ?_);refine aW (G _ _ ⟨λa o p e=>?_,aa s.heap.objs.size,(hs.2 x g).trans (iV _ k rfl),.inr ⟨_,_,_,rfl,?_,g.symm,f,vl C v Within.nil,by rw[aQ,cR];exact#["HHi%P3?g"]⟩⟩)
  ·have S:=I.keep a o p e;exact(hs.2 a (j2 (jn S))).trans ((up a p).trans (bN _ S))
  ·cases q:c.get? s.heap.objs.size with|none=>rfl|some o=>exact bJ (jn (I.keep _ _ g.symm q)) (ly _)
 ·refine aW (aA (aW (aA (wpAny_nsSet1 h4 λh' f hs=>?_))));refine lq (f.count (vl C v O)) λoD D F h i j=>?_;refine aA (ue h (by rw[i];exact uf (dI j (by rw[aQ,zk];exact#["2hf>XGN|JN<aC$ebPWXGBe`c",U,R]))) ?_);exact aW (G _ _ ⟨λa o p e=>(hs.2 a (λq=>by rw[q,l]at e;cases e)).trans (I.keep a o p e),_,(hs.2 x z.symm).trans d,.inr ⟨L,_,_,rfl,l,z,f,vl C v O,by rw[aQ];exact#[26,R]⟩⟩)
end
end
section
open PySem PySem.W PySem.Calls PyProof.Rows
section
variable {J:Program} {w:fb} {A:cQ} {E:aE->aM->Prop} {I:gP}
variable {s:aM} {x:cI} {m:cI->au aE} {v:aE} {Q:aE->aM->Prop} {e:bh}
theorem BP {p:Pos} (hk:I.scope.kind=.function) (b:I.kindOf x=aa .local) (a:s.heap.Ns I.locals m) (c:m x=aa v) (hd:(x==("__debug__":cI))=aD) (h:Q v s):
  bp (model J w) A (eval (.Name x p) I) Q E s:=by
 rw[xv];refine aA (dz ?_);rw[aG (by rw[hd];decide)];exact qq hk b a c h
theorem F9 {o nm:cI} {p1 c d f:Pos} {Q:Flow->aM->Prop} (hk:I.scope.kind=.function) (g:I.kindOf o=aa .local) (i:I.kindOf x=aa .local) (a:s.heap.Ns I.locals m) (j:m o=aa (.ref e)) (k:m x=aa v) (l:(o==("__debug__":cI))=aD) (n:(x==("__debug__":cI))=aD)
  (h:bp (model J w) A (setAttr (.ref e) nm v) (λb s'=>Q .next s') E s):bp (model J w) A (exec (.Assign [.Attribute (.Name o p1) nm c] (.Name x d) f) I) Q E s:=by
 refine pE (tC rfl) rfl rfl (aA (BP hk i a k n (aA ?_)));rw[xa];refine aA (dk (BP hk g a j l ?_));exact aA (dz (aA (dk (bS h (λb s' q=>rf (aW q)) λb b q=>q))))
noncomputable def t6:FuncData:=AG (oc 3 0) "TooDeep.__init__" 56 (.ref 50) pD
noncomputable def tdBody:ae et:=[.Assign [.Attribute (.Name (S "self") ⟨13,8,13,12⟩) (S "number") ⟨13,8,13,19⟩] (.Name (S "number") ⟨13,22,13,28⟩) ⟨13,8,13,28⟩,
 .Assign [.Attribute (.Name (S "self") ⟨14,8,14,12⟩) (S "text") ⟨14,8,14,17⟩] (.Name (S "text") ⟨14,20,14,24⟩) ⟨14,8,14,24⟩]
theorem RG:t6.body=.stmts tdBody:=by kernel_rfl!
theorem Pt (P:eI):(KF P).lookup 57=aa (uA t6):=by kernel_rfl!
theorem RH (P:eI) (st:pP) (e i:aE):peek (KF P) st (pd t6 ⟨[e,i],[]⟩)=aa [(S "self",e),(S "number",i),(S "text",.str (S "") 240)]:=by kernel_rfl!
theorem Ab:t6.scope.names=[(S "self",.local),(S "number",.local),(S "text",.local)]:=by kernel_rfl!
theorem RI:(t6.scope.isCoroutine,t6.scope.isGenerator,t6.scope.kind)=(aD,aD,.function):=by kernel_rfl!
theorem HX:Jx 56=aa t6.qualname/\t6.code=.ref 56:=⟨by kernel_rfl!,by kernel_rfl!⟩
theorem RJ (P:eI):(KF P).all (λp=>p.2.cls !=.ref 60)=ai:=by kernel_rfl!
theorem RK {h:dj} {l:bh} {i:aE} (Y:m5.says w h) (m:h.NoLimit) (hd:A.depth<990) (k:∀a o,h.get? a=aa o->s.heap.get? a=aa o)
  (g:s.heap.get? e=aa {cls:=.ref 60,data:=.fields #[.ref l,.none,.none,.none,.bool aD,.none]}) (z:∀s',E9 s e 60 s'->Q .none s'):bp (model J w) A (call (.ref 57) [.ref e,i]) Q E s:=by
 have X:=Y.1.keeps k;have t:(KF w.params).lookup e=ah:=by cases q:(KF w.params).lookup e with|none=>rfl|some o=>have:=ou (RJ w.params) q;rw[X _ _ q]at g;cases g;exact bJ rfl (oz.mp this)
 have C:s.heap.CodeRec t6.code t6.qualname:=by rw[HX.2];exact(BN Y.2.1 HX.1).keeps k
 refine dp (eK RI) λk1 k2=>?_;refine dp (eK k2) λk2 k3=>?_;refine s_ (codeAny_call_def (show A.depth<recursionLimit from jZ hd #[0]) (X _ _ (Pt _)) rfl (m.keeps k) C RG (kp_binds X λst=>RH _ _ _ _) ?_ ?_ (λc f hk=>?_) k1 k2 k3)
 ·rw[Ab];decide
 ·rw[Ab];exact cv.mpr ⟨rfl,cv.mpr ⟨rfl,cv.mpr ⟨rfl,λj q=>nomatch q⟩⟩⟩
 ·have b:∀x,(callEnv t6 s.heap.objs.size 57).kindOf x=[(S "self",NameKind.local),(S "number",.local),(S "text",.local)].lookup x:=λx=>by
   show t6.scope.names.lookup x=_;rw[Ab]
  have d:=X.keeps hk;have B:T6 c c e l 0:=⟨λj j j q=>q,ah,hk _ _ g,.inl rfl⟩
  refine gS (F9 k3 (by rw[b];rfl) (by rw[b];rfl) f rfl rfl #[0] #[0] ?_);have n:=(fB (DE w.params)).1;have p:=(fB (fB (DE w.params)).2).1;have r:(callEnv t6 s.heap.objs.size 57).locals≠e:=λq=>by have u:=jn g;rw[<-q]at u;exact ly _ u
  refine DF d t B #[0] n λh' tk v=>?_;refine gS (F9 k3 (by rw[b];rfl) (by rw[b];rfl) (Ns.at f λo q=>v.keep _ _ r q) rfl rfl #[0] #[0] ?_);refine DF d t v #[0] p λD F y=>nz (z _ ?_);refine ba y.obj λI G j=>?_;exact⟨λa o H q=>y.keep a o H (hk _ _ q),fD _ l G rfl rfl,rfl,rfl,rfl⟩
end
noncomputable def Jz (P:eI):bZ ew:=match(KF P).lookup 59 with|some o=>(match o.data with|.dict es _=>es|_=>#[])|none=>#[]
theorem RL (P:eI):(Jz P).toList.all (λe=>F7 e.key)=ai:=by kernel_rfl!
theorem UP (P:eI):(KF P).lookup 59=aa {cls:=.type "dict",data:=.dict (Jz P) 2}:=by kernel_rfl!
theorem RM (P:eI):B3 (Jz P) "__init__"=aa (.ref 57):=by kernel_rfl!
theorem T7 (P:eI):(KF P).lookup 60=aa (mY (S "TooDeep") (S "TooDeep") 60 59 [.ref 39] [.ref 39,.type "Exception",.type "BaseException",.type "object"] ai [] [] aD ah ah (aa (.ref 43)) ah (aa (.str (S "TooDeep") 227)) (aa (.str (S "TooDeep") 235)) (aa (.bool ai)) "Exception.__new__"):=by kernel_rfl!
theorem Oo {es:bZ ew} (h:es.toList.all (λe=>F7 e.key)=ai):StrKeys es:=λe m=>by have q:=cy.mp h e (sf.mp m);revert q;cases e.key with|str s t=>exactλa=>lg s t rfl|_=>exactλq=>nomatch q
theorem F_ {prog:Program} {w:fb} {h:dj} (Y:m5.says w h) (a:h.NoLimit):sP (p9 prog w h):=λk C b e=>by
 obtain rfl:C=60:=by
  rcases Aa e with⟨rfl,rfl⟩|⟨rfl,rfl⟩|⟨rfl,rfl⟩
  ·rfl
  ·cases b
  ·cases b
 exact⟨⟨_,_,_,_,_,_,_,_,_,_,_,_,_,_,_,_,_,"Exception.__init__",[.type "Exception",.type "BaseException",.type "object"],"Exception",λn=>B3 (Jz w.params) n,57,uA t6⟩,
  ⟨Y.1 _ _ (T7 _),F.excBase_Exception,(show([gR 39,.type "Exception",.type "BaseException",.type "object"]:ae aE).contains (.type "Exception")=ai by decide),(show([gR 39,.type "Exception",.type "BaseException",.type "object"]:ae aE).contains (.type "BaseException")=ai by decide),(show([gR 39,.type "Exception",.type "BaseException",.type "object"]:ae aE).contains (.type "AttributeError")=aD by decide),(show([gR 39,.type "Exception",.type "BaseException",.type "object"]:ae aE).contains (.type "NameError")=aD by decide),tG _ _ _ (Y.1 _ _ (UP _)) rfl (Oo (RL _)) (λf=>rfl),RM _,Y.1 _ _ (Pt _),rfl,λA E s e i t g Q j hd l k c d=>RK Y a hd k c d⟩⟩
end
section
open PySem PySem.W PyProof.Rows
theorem zg {M:Model} {A:cQ} {E:aE->aM->Prop} {env:gP} {Q:Flow->aM->Prop} {xs b:ae et} {s:aM} (h:bp M A (execs xs env) (λf s'=>match f with|.next=>bp M A (execs b env) Q E s'|f=>Q f s') E s):bp M A (execs (xs++b) env) Q E s:=by
 intro a p ha;replace h:=h a p ha;revert p s;induction xs with
 |nil=>exactλp h=>h a p ha
 |cons x xs d=>intro s p h;rw[execs_cons,Sem.wp_bind']at h;rw[mL,execs_cons,Sem.wp_bind'];refine Sem.wp_mono M a _ (λf e s' h'=>?_) (λc c c h'=>h') _ _ h;cases f with|next=>exact d _ h'|_=>exact h'
noncomputable def jD (L a:bh) (b:aE):gP:=envOfC lO.name lO.scope L a b
noncomputable def LawRest:Prop:=∀(w:fb) (a h:dj) (g:bZ w6) (d:Drawn) (tk:af) (os:q8) (f:ExcName->au aE) (p:Program) (loose:ae cI) (r s m:cI->au aE) (L i c P D t:bh) (j:ae aE) (u k n q:fK) (l:ae aq) (E:aE->aM->Prop) (Q:Flow->aM->Prop),
 m5.says w a->pg p loose f r s a->TabsAt [(c,P)] a->Fr (m4 a [(c,P)]) L h m->News (m4 a [(c,P)]) L h [(D,LCg.lst j),(t,u),(L+1+1+1,k),(L+1+1,n),(L+1,q),(P,tabObj #[])]->
 k.data=.cell (aa (.ref D))->n.data=.cell ah->q.data=.cell ah->v5 j l->l.length<=20->(L+1+1+1≠D/\L+1+1≠D/\L+1≠D)->
 (∀e,(∀b o,(m4 a [(c,P)]).get? b=aa o->e.heap.get? b=aa o)->e.gens=g->e.os=os->GrownAt P e.heap->Q (.ret (.bool ai)) e)->
 bp (model pw w) (rj.deeper (jD L i (.ref c))) (execs (lO.body.drop 1) (jD L i (.ref c))) Q E ⟨h,g,d,tk,os⟩
theorem RN:(recsOf pA).any (λd=>d.name==lO.name)=ai:=by kernel_rfl!
set_option maxHeartbeats 8000000 in
theorem VH (H:LawRest):jK.Holds:=by
 refine Tactic.VJ ?_
 k_fill
 intro w s₀ s₁ mg mb G Y fa o pm cd doc dV kV ho hd hcd hD hmg hg args vals as hpre hlay hrd hwl hlo;have KX:=Y.1;refine Ground.open G ?_;intro T B D TE TW
 try(refine guard_noD D (by decide+kernel) ?_;clear D)
 refine d9 (by obtain⟨e,he,hn⟩:=An.mp RN;obtain⟨a,o',fd,c,P,h1,h2,h3,h4,h5,h6⟩:=T.tab e he;rw[eh.mp hn,hmg]at h1;cases h1;rw[ho]at h2;cases h2;rw[hd]at h3;cases h3;refine dY P c h4 (λq hq=>?_);rw[aL.mp hq];exact⟨.of h5 h6,h6.2⟩:∃P c,cd=.ref c/\TabsAt [(c,P)] s₁.heap) λP c he9 hT9=>?_;subst he9;clear hmg
 wrow_args hpre hlay hrd hwl hlo
 first|refine callC_kw (enter_call ?_)|refine enter_call ?_
 w_top on
 refine kn_post hT9 (λu0 u0=>rfl) ?_
 w_call any ho hd hcd hD T F
 clear hd
 kn_ghosts F T
 k_drop
 have hb:Tactic.lO.body=Tactic.lO.body.take 1++Tactic.lO.body.drop 1:=(dC _ _).symm;rw[hb];refine zg ?_
 all_goals try k_fold
 k_steps
 refine nz ?_;refine H w s₁.heap _ _ _ _ _ _ _ _ _ _ _ _ _ _ _ _ _ _ _ _ _ _ _ _ _ Y T hT9 ‹Fr (m4 s₁.heap [(c,P)]) _ _ _› ‹News (m4 s₁.heap [(c,P)]) _ _ [_,_,_,_,_,_]› ‹_=Data.cell (aa (gR _))› ?cA ?cT ‹v5 ys _› ?len ?ne ?q
 case cA=>assumption
 case cT=>assumption
 case len=>rw[az];exact#["16$q(~?>{P<w4(iAWi",(by assumption),cZ _ _]
 case ne=>exact dy (show(s₁.heap.objs.size+1+1+1)≠_ by omega) (show(s₁.heap.objs.size+1+1)≠_ by omega) (show(s₁.heap.objs.size+1)≠_ by omega)
 case q=>intro s'' k hg' ho' gr;exact dy (jB (.inl ⟨_,_,_,rfl,raisesW_false (by wrow_none_raised),.bool ai,by wrow_post,unshared_nil⟩) k ho' (hg'.trans hg)) gr trivial
end
section
open PySem PySem.W PySem.Calls PyProof.Rows
noncomputable def BQ:KO:=λx=>lO.scope.names.lookup x
noncomputable def pre2:ae IS:=[.i (.m (dm (.c "nums")) .Eq (lI 0)) [.c "nums" (.s [lI 1,lI 0,lI 3,lI 1,lI 16,lI 6])] [],.c "at" (.s [lI 0])]
theorem RP:JX BQ ((lO.body.drop 1).take 2)=aa pre2:=by kernel_rfl!
theorem RQ:JX BQ (lO.body.drop 4)=aa pX.b:=by kernel_rfl!
theorem LW:lO.scope.names.all (λx=>x.2!=.free)=ai:=by kernel_rfl!
theorem Op:lO.scope.kind=.function:=by kernel_rfl!
theorem LX (L a:bh) (b:aE):(jD L a b).cells=[(S "nums",L+1+1+1),(S "at",L+1+1),(S "tab",L+1)]:=by kernel_rfl!
noncomputable def DG:ae (aC×af):=[("nums",1),("at",2),("tab",3)]
noncomputable def V8:ae AV:=[.i 1,.i 0,.i 3,.i 1,.i 16,.i 6]
theorem Oq:dw PR 30 pre2 ⟨[],DG⟩ [.l [],.c (aa (.l 0)),.c ah,.c ah]=.k (.n,⟨[],DG⟩) [.l [],.c (aa (.l 4)),.c (aa (.l 5)),.c ah,.l V8,.l [.i 0]]:=by kernel_rfl!
theorem LY (a:AV) (r:ae AV) (b:r.length<=1000):dw PR 30 pre2 ⟨[],DG⟩ [.l (a::r),.c (aa (.l 0)),.c ah,.c ah]=.k (.n,⟨[],DG⟩) [.l (a::r),.c (aa (.l 0)),.c (aa (.l 4)),.c ah,.l [.i 0]]:=by have d:builtin "len" [.l 0] [.l (a::r),.c (aa (.l 0)),.c ah,.c ah]=.k (.i ((a::r).length:af)) [.l (a::r),.c (aa (.l 0)),.c ah,.c ah]:=mW rfl (by rw[aQ];exact#["1qNB0M6*Pa(HcrZ`aE",b]);refine aT (dB (ef (bU (cC gn) (aS (gW rfl) bu) (gM d)) bL (IU (by rw[aQ];omega))) (ix cG)) (aT (KD (jQ (aS bL bu) rfl) rfl rfl) cG)
variable {c:Cfg} {C:ae bh} {h:dj} {I:ae aq}
theorem RR {a:ae aE} {l:ae aq} (e:v5 a l):fq c C h (l.map .i) a:=by induction e with|nil=>exact .nil|cons n t _ b=>exact .cons (.int n t) b
section
variable {w:fb} {C:dj} {c P:bh}
theorem JA (Y:m5.says w C) (b:TabsAt [(c,P)] C):m5.says w (m4 C [(c,P)]):=by
 refine dy (ghost_K b Y.1 (by kernel_rfl)) (λp f=>?_) ?_
 ·have e:=Y.2.1 p f;refine ba (fv.mp e) λo d a=>?_;have g:=ghost_get b d (λq=>by
   rw[q]at a;cases a)
  unfold rH;rw[g];exact a
 ·refine ba Y.2.2 λo d a=>?_;exact aY o (ghost_get b d (λq=>by rw[q]at a;cases a)) a
end
theorem Ga {b:Cfg} {ρ':ae bh} {h':dj}:∀{us:ae aE},fq c C h (I.map .i) us->fq b ρ' h' (I.map .i) us:=by induction I with|nil=>exactλr=>r.nil_e .nil|cons n I d=>exactλr=>r.cons_e λu us a r=>.cons (a.int_e λt=>.int n t) (d r)
theorem UQ {σ:St} {i j k m q:af} (X:SR c C σ h) (Y:σ[i]?=aa (.l (I.map .i))) (Z:σ[j]?=aa (.l [.i 0])) (hk:σ[k]?=aa (.c (aa (.l i)))) (hm:σ[m]?=aa (.c (aa (.l j))))
  (hq:σ[q]?=aa (.c ah)) (F:[i,j,k,m,q].Nodup):∃a b x y z,C[k]?=aa x/\C[m]?=aa y/\C[q]?=aa z/\(∀r∈[a,b,x,y,z],r∈C)/\[a,b,x,y,z].Nodup/\
  ∀(E:Cfg) (h':dj),(∀r o,r∈[a,b,x,y,z]->h.get? r=aa o->h'.get? r=aa o)->(∀b o,E.h₀.get? b=aa o->h'.get? b=aa o)->(∀r∈[a,b,x,y,z],E.h₀.get? r=ah)->
   SR E [a,b,x,y,z] [.l (I.map .i),.l [.i 0],.c (aa (.l 0)),.c (aa (.l 1)),.c ah] h':=by
 refine G2 (X.at Y) λa t us G e1 v1=>?_;refine G2 (X.at Z) λb u ws H e2 v2=>?_;refine Em (X.at hk) λx v J S u3 f T=>?_;obtain rfl:=f;refine Em (X.at hm) λy w J U u4 f v4=>?_;obtain rfl:=f;refine JB (X.at hq) λz A J V f=>?_;obtain rfl:=f;have inj:∀{p r:af} {K L:bh},C[p]?=aa K->C[r]?=aa L->p≠r->K≠L:=λW h2 M e=>M ((y3 (aP.mp W).1 X.nodup).mp (W.trans (e▸h2.symm)));have N:u3=.ref a:=T.loc_e λq e=>aU gR (aw (e.symm.trans t));have O:u4=.ref b:=v4.loc_e λq e=>aU gR (aw (e.symm.trans u));clear T;subst N O;have s:∀{p:af} {o:bh},C[p]?=aa o->o∈C:=λh=>bG h;have B:[a,b,x,y,z].Nodup:=by simp only[eW,bw,bF,jM,not_or,y7,CS,Al]at F⊢;refine lD F ?_;clear F;intro f P Q R;obtain⟨G,H,n3,n4⟩:=f;obtain⟨n5,n6,n7⟩:=P;obtain⟨n8,n9⟩:=Q;exact jB (jB (inj t u G) (inj t v H) (inj t w n3) (inj t A n4)) (dy (inj u v n5) (inj u w n6) (inj u A n7)) ⟨inj v w n8,inj v A n9⟩ (inj w A R)
 refine⟨a,b,x,y,z,v,w,A,cv.mpr ⟨s t,cv.mpr ⟨s u,cv.mpr ⟨s v,cv.mpr ⟨s w,cv.mpr ⟨s A,λJ q=>nomatch q⟩⟩⟩⟩⟩,B,λE h' D hb hf=>⟨rfl,B,λp K L q1 g=>?_,hb,hf⟩⟩
 match p,q1,g with|0,q1,g=>cases q1;cases g;exact dY us G (D _ _ (.head _) e1) (Ga v1)|1,q1,g=>cases q1;cases g;exact dY ws H (D _ _ (.tail _ (.head _)) e2) (Ga (I:=[0]) v2)|2,q1,g=>cases q1;cases g;refine ba S ?_;clear S;intro ob e d;exact tF _ (aY ob (D _ _ (.tail _ (.tail _ (.head _))) e) d) _ rfl (.loc rfl)|3,q1,g=>cases q1;cases g;refine ba U ?_;clear U;intro ob e d;exact tF _ (aY ob (D _ _ (.tail _ (.tail _ (.tail _ (.head _)))) e) d) _ rfl (.loc rfl)|4,q1,g=>cases q1;cases g;refine ba V ?_;clear V;intro ob e d;exact aY _ (aY ob (D _ _ (.tail _ (.tail _ (.tail _ (.tail _ (.head _))))) e) d) rfl|n+5,q1,g=>cases q1
end
section
open PySem PySem.W PySem.Calls PyProof.Rows
variable {L I:bh} {C:aE} {c:Cfg} {n:af} {z:Zs} {J:AF} {m:cI->au aE}
theorem RS {x:cI} (h:BQ x=aa .cell\/BQ x=aa .free):∃b,(jD L I C).cells.lookup x=aa b:=by
 rcases h with h|h
 ·exact nS.mp (cellsFrom_some _ (L+1) [] (.inl h))
 ·exact bJ (ou LW h) eT
noncomputable abbrev wW (L I:bh) (C:aE):Fx:=⟨rj.deeper (jD L I C),[jD L I C],jD L I C,BQ⟩
theorem CN (L I:bh) (C:aE):sA (wW L I C):=⟨aY ([]) rfl (λa q=>nomatch q),rfl⟩
theorem Gb (a:c.h₀.get? L=ah) (b:n<=621):l_ c (wW L I C) n:=
 l_.less ⟨Op,λd=>rfl,rfl,rfl,λx=>RS,a,rfl,show rj.depth+1+621<980 by decide,show rj.units+3+4*621<9000 by decide,rfl⟩ b
theorem DH {i j k:af} (b:z.s.heap.Ns L m) (f:J.v=[]) (a:J.c=[("tab",k),("nums",i),("at",j)]\/J.c=[("nums",i),("at",j),("tab",k)])
  (g:z.ρ[i]?=aa (L+1+1+1)) (l:z.ρ[j]?=aa (L+1+1)) (hk:z.ρ[k]?=aa (L+1)) (n:L∉z.ρ):jy c (wW L I C) J z:=by
 refine⟨aY m b (λx v e=>by rw[f]at e;exact bO e),λx q e o=>?_,n⟩;rw[LX];have d:(x,q)∈[("tab",k),("nums",i),("at",j)]:=by
  rcases a with a|a
  ·rw[a]at e;exact ei e
  ·rw[a]at e;have:=ei e;simp only[bw,bF,jM]at this⊢;rcases this with h|h|h
   ·exact .inr (.inl h)
   ·exact .inr (.inr h)
   ·exact .inl h
 simp only[bw,bF,jM,xx]at d;rcases d with⟨rfl,rfl⟩|⟨rfl,rfl⟩|⟨rfl,rfl⟩
 ·exact aY _ rfl hk
 ·exact aY _ rfl g
 ·exact aY _ rfl l
theorem Gc (a:n<=621) (b:c.h₀.get? L=ah) (Z:fz c z) (f:jy c (wW L I C) J z):cM c (wW L I C) J n z:=
 ⟨Gb b a,Z,f,cM.frs (CN L I C) (Gb b a) f λe d q=>bJ (aL.mp d) q⟩
theorem LZ {w:fb} {h:dj} {g:bZ w6} {d:Drawn} {tk:af} {os:q8} {D:bh} {U:ae aE} {V W Z:fK} {l:ae aq} {E:aE->aM->Prop} {Q:Flow->aM->Prop} {t:dj} {p:Program} {loose:ae cI} {A:ExcName->au aE} {mg mb:cI->au aE}
  (Y:m5.says w t) (T:pg p loose A mg mb t) (F:Fr t L h m) (N:News t L h [(D,LCg.lst U),(L+1+1+1,V),(L+1+1,W),(L+1,Z)]) (d1:V.data=.cell (aa (.ref D))) (d2:W.data=.cell ah) (d3:Z.data=.cell ah) (hI:v5 U l) (hl:l.length<=20)
  (hD:L+1+1+1≠D/\L+1+1≠D/\L+1≠D)
  (hQ:∀(s':aM) (a b:bh) (ns:ae aq),0<ns.length->ns.length<=20->s'.gens=g->s'.os=os->(∀b o,t.get? b=aa o->s'.heap.get? b=aa o)->(∀b o,b≠L->b≠D->b≠L+1+1+1->b≠L+1+1->b≠L+1->h.get? b=aa o->s'.heap.get? b=aa o)->
   (∃m',s'.heap.Ns L m')->L∉[a,b,L+1+1+1,L+1+1,L+1]->(∀r∈[a,b,L+1+1+1,L+1+1,L+1],t.get? r=ah/\(∃o,s'.heap.get? r=aa o)/\∀o,h.get? r=aa o->r=D\/r=L+1+1+1\/r=L+1+1\/r=L+1)->
   (∀(c':Cfg) (h':dj),(∀r o,r∈[a,b,L+1+1+1,L+1+1,L+1]->s'.heap.get? r=aa o->h'.get? r=aa o)->(∀b o,c'.h₀.get? b=aa o->h'.get? b=aa o)->(∀r∈[a,b,L+1+1+1,L+1+1,L+1],c'.h₀.get? r=ah)->
    SR c' [a,b,L+1+1+1,L+1+1,L+1] [.l (ns.map .i),.l [.i 0],.c (aa (.l 0)),.c (aa (.l 1)),.c ah] h')->Q .next s'):
  bp (model pw w) (rj.deeper (jD L I C)) (execs ((lO.body.drop 1).take 2) (jD L I C)) Q E ⟨h,g,d,tk,os⟩:=by
 have B:gL (p9 pw w t):=HV Y T;have Y2:sP (p9 pw w t):=F_ Y T.nolimit;have nd:[D,L+1+1+1,L+1+1,L+1].Nodup:=by simp only[eW,bw,bF,jM,not_or,y7,CS,Al];exact dy (dy hD.1.symm hD.2.1.symm hD.2.2.symm) ⟨ug _,Nat.ne_of_gt (sI (o7 _))⟩ (ug _)
 have fresh:∀r∈[D,L+1+1+1,L+1+1,L+1],t.get? r=ah/\r≠L/\∃o,h.get? r=aa o:=by
  refine cv.mpr ⟨?_,cv.mpr ⟨?_,cv.mpr ⟨?_,cv.mpr ⟨?_,λR q=>nomatch q⟩⟩⟩⟩
  ·exact Ar ((N _ (.head _)).2.2) ((N _ (.head _)).2.1) _ ((N _ (.head _)).1)
  ·exact Ar ((N _ (.tail _ (.head _))).2.2) ((N _ (.tail _ (.head _))).2.1) _ ((N _ (.tail _ (.head _))).1)
  ·exact Ar ((N _ (.tail _ (.tail _ (.head _)))).2.2) ((N _ (.tail _ (.tail _ (.head _)))).2.1) _ ((N _ (.tail _ (.tail _ (.head _)))).1)
  ·exact Ar ((N _ (.tail _ (.tail _ (.tail _ (.head _))))).2.2) ((N _ (.tail _ (.tail _ (.tail _ (.head _))))).2.1) _ ((N _ (.tail _ (.tail _ (.tail _ (.head _))))).1)
 have X:SR (p9 pw w t) [D,L+1+1+1,L+1+1,L+1] [.l (l.map .i),.c (aa (.l 0)),.c ah,.c ah] h:=by
  refine⟨rfl,nd,λk a o q1 u=>?_,F.keep,λr K=>(fresh r K).1⟩
  match k,q1,u with|0,q1,u=>cases q1;cases u;exact dY U _ ((N _ (.head _)).1) (RR hI)|1,q1,u=>cases q1;cases u;exact tF _ (aY V ((N _ (.tail _ (.head _))).1) d1) _ rfl (.loc rfl)|2,q1,u=>cases q1;cases u;exact aY _ (aY W ((N _ (.tail _ (.tail _ (.head _)))).1) d2) rfl|3,q1,u=>cases q1;cases u;exact aY _ (aY Z ((N _ (.tail _ (.tail _ (.tail _ (.head _))))).1) d3) rfl|n+4,q1,u=>cases q1
 have Wc:=eL F.above;have s:=λq=>(fresh L q).2.1 rfl;have H:cM (p9 pw w t) (wW L I C) ⟨[],DG⟩ 30 ⟨[D,L+1+1+1,L+1+1,L+1],[.l (l.map .i),.c (aa (.l 0)),.c ah,.c ah],⟨h,g,d,tk,os⟩⟩:=
  Gc #[0] Wc X (DH F.ns rfl (.inr rfl) rfl rfl rfl s)
 have M:=(Ea B Y2 30 30 (bf _)).b _ _ _ 50 _ pre2 RP (CN L I C) H;have nL:L≠L+1+1+1/\L≠L+1+1/\L≠L+1:=dy (λq=>s (q▸.tail _ (.head _))) (λq=>s (q▸.tail _ (.tail _ (.head _)))) (λq=>s (q▸.tail _ (.tail _ (.tail _ (.head _)))));have fin:∀(σ':St) (i j) (ns:ae aq),dw PR 30 pre2 ⟨[],DG⟩ [.l (l.map .i),.c (aa (.l 0)),.c ah,.c ah]=.k (.n,⟨[],DG⟩) σ'->σ'[i]?=aa (.l (ns.map .i))->σ'[j]?=aa (.l [.i 0])->σ'[1]?=aa (.c (aa (.l i)))->σ'[2]?=aa (.c (aa (.l j)))->σ'[3]?=aa (.c ah)->
   [i,j,1,2,3].Nodup->0<ns.length->ns.length<=20->bp (model pw w) (rj.deeper (jD L I C)) (execs ((lO.body.drop 1).take 2) (jD L I C)) Q E ⟨h,g,d,tk,os⟩:=by
  intro σ' i j ns hv z1 z2 z3 z4 z5 Wd hp hn;have M:=M;rw[show dw (p9 pw w t).P 30 pre2 ⟨[],DG⟩ [.l (l.map .i),.c (aa (.l 0)),.c ah,.c ah]=_ from hv]at M;refine bS M (λf s' r=>?_) λR R e=>e.elim;refine cV r ?_;clear r;intro ρ' G J fl;obtain rfl:f=.next:=fl
  ·refine En (UQ G.sr z1 z2 z3 z4 z5 Wd) λa b x y z rx ry rz S We mk=>?_;have st:=G.step;obtain rfl:L+1+1+1=x:=aw ((st.get _ _ rfl).symm.trans rx);obtain rfl:L+1+1=y:=aw ((st.get _ _ rfl).symm.trans ry);obtain rfl:L+1=z:=aw ((st.get _ _ rfl).symm.trans rz);refine hQ s' a b ns hp hn G.gens G.os G.sr.base (λb o h0 h1 h2 h3 h4 e=>st.ext b o (λq=>?_) (λq=>h0 (aL.mp q)) e) (ba J.locs λm' q R=>⟨m',q⟩) (λq=>J.lnew (S L q)) (λr K=>dy (G.sr.fresh r (S r K)) (ba (G.sr.mem (S r K)) λo e R=>⟨o,e⟩) (λo e=>?_)) mk
   ·simp only[bw,bF,jM]at q;rcases q with q|q|q|q
    ·exact h1 q
    ·exact h2 q
    ·exact h3 q
    ·exact h4 q
   ·refine ba st.pre λms e1 e2=>?_;have O:=S r K;rw[e1]at O;rcases b7.mp O with q|q
    ·simpa only[bw,bF,jM]using q
    ·have:=e2 r q;rw[show(({heap:=h,gens:=g,drawn:=d,toks:=tk,os:=os}:aM).heap)=h from rfl,e]at this;cases this
 clear H M X hI;induction l using aV with|nil=>exact fin _ 4 5 [1,0,3,1,16,6] Oq rfl rfl rfl rfl rfl #[0] #[0] #[0]|cons v r=>exact fin _ 0 4 (v::r) (LY (.i v) (r.map .i) (by rw[az];rw[aQ]at hl;exact#["B>9{{:xyoW;'|*~u",hl])) rfl rfl rfl rfl rfl #[0] (Gj _) hl
end
section
open PySem PySem.W PySem.Calls PyProof.Rows
noncomputable def ln:au et:=lO.body[3]?
noncomputable def UR:Pos:=EF ⟨0,0,0,0⟩ (λa a a a p=>p) ln
theorem US:lO.body.drop 3=.FunctionDef (S "take") (t5 ln) (rO ln) [] ah [] (p8 ln) ah (S "take") UR::lO.body.drop 4:=by kernel_rfl!
theorem UT:JX (λx=>(p8 ln).names.lookup x) (rO ln)=aa fd_take.b:=by kernel_rfl!
theorem Ot:AI (vy (p8 ln))=aa []:=by kernel_rfl!
theorem Ou:(p8 ln).names.lookup (S "k")=aa .local:=by kernel_rfl!
theorem RT:(p8 ln).names.filter (λx=>x.2==.free)=[(S "at",.free),(S "nums",.free)]:=by kernel_rfl!
theorem Ov:((p8 ln).kind,(p8 ln).isCoroutine,(p8 ln).isGenerator)=(.function,aD,aD):=by kernel_rfl!
theorem RU (L a:bh) (b:aE):BW (p8 ln) (jD L a b)=pure [(S "nums",L+1+1+1),(S "at",L+1+1)]:=by kernel_rfl!
theorem RV:((t5 ln).defaults.length,(t5 ln).kw_defaults.length)=(0,0):=by kernel_rfl!
theorem T8 (L a:bh) (b:aE):annTrees (t5 ln) ah (jD L a b)=[]:=by kernel_rfl!
noncomputable def T9 (a:cI) (b:ae (cI×bh)) (c pm:aE) (d:bh) (e:aE):FuncData:=fnX (S "take") a (t5 ln) (rO ln) (p8 ln) b .none .none c pm ah (.ref d) e
theorem RX (st:pP) (b:cI) (c:ae (cI×bh)) (d pm:aE) (e:bh) (f a:aE):peek [] st (pd (T9 b c d pm e f) ⟨[a],[]⟩)=aa [(S "k",a)]:=by kernel_rfl!
end
section
open PySem PySem.W PySem.Calls PyProof.Rows
variable {w:fb} {h:dj}
theorem UU {qual:cI} {x y f:bh} {doc pm i:aE} (j:h.CodeRec (.ref f) qual):tL (p9 pw w h) "take" (T9 qual [(S "nums",x),(S "at",y)] doc pm f i) fd_take (rO ln):=by
 refine dp (eK Ov) λk1 k2=>?_;refine dp (eK k2) λk2 k3=>?_;refine⟨rfl,rfl,UT,Ot,(show["k"].Nodup by decide),λp k=>?_,aY ([]) .nil (λs us g b c=>?_),.inl rfl,λz l=>?_,k1,k2,k3,rfl,rfl,j⟩
 ·rw[aL.mp (show p∈["k"]from k)];exact Ou
 ·have b:us.length<=1:=b;have c:1<=us.length:=c;refine ck (lT.mp (aB b c):∃a,us=[a]) λa d=>?_;clear b c;obtain rfl:=d;exact kp_binds (K:=[]) (λg g e=>nomatch e) λst=>RX st _ _ _ _ _ _ _
 ·have m:(z,lA)∈(p8 ln).names.filter (λx=>x.2==.free):=lM.mpr ⟨ei l,rfl⟩;rw[RT]at m;simp only[bw,bF,jM,xx,Al]at m;rcases m with rfl|rfl
  ·exact⟨y,rfl⟩
  ·exact⟨x,rfl⟩
theorem Ow:∀f∈nE pX.b,A7 (p9 pw w h) f:=by
 have e:nE pX.b=["TooDeep"]:=by kernel_rfl!
 have q:ktsIn (KF w.params) 60 "BaseException"=ai:=by kernel_rfl!
 rw[e];refine cv.mpr ⟨⟨by decide,λk C a d=>?_⟩,λg q=>nomatch q⟩;have a:aa (AV.c "TooDeep")=aa (.c k):=a;cases a;have d:aa 60=aa C:=d;cases d;exact q
theorem Ox {c:Cfg} {X:Fx} {fr:AF} {n m:af} {z:Zs} {r} (B:gL c) (Y:sP c) (a:X.l=[X.e]) (T:sA X) {is:ae IS} {asts:ae et} (b:fJ (oB m X.k) asts=aa is) (d:∀f∈nE is,A7 c f) (H:cM c X fr n z) (g:fH c.P n is fr z.σ=r):Ev c X ai (jO c X) r (execs asts X.e) z:=g▸Uy B Y a T b d H
theorem RY {v H hh:dj} {g:bZ w6} {d:Drawn} {tk:af} {os:q8} {p:Program} {loose:ae cI} {s:ExcName->au aE} {R U m':cI->au aE} {L j a b f:bh} {cd:aE} {ns:ae aq} {fd:FuncData} {E:aE->aM->Prop} {Q:Flow->aM->Prop}
  (Y:m5.says w v) (T:pg p loose s R U v) (kk:∀r o,v.get? r=aa o->hh.get? r=aa o) (W:∀r o,hh.get? r=aa o->H.get? r=aa o) (Z:∀r∈[a,b,L+1+1+1,L+1+1,L+1],hh.get? r=ah) (t:hh.get? L=ah) (A:H.Ns L m') (hL:L∉[a,b,L+1+1+1,L+1+1,L+1])
  (mk:∀C:Cfg,(∀b o,C.h₀.get? b=aa o->H.get? b=aa o)->(∀r∈[a,b,L+1+1+1,L+1+1,L+1],C.h₀.get? r=ah)->SR C [a,b,L+1+1+1,L+1+1,L+1] [.l (ns.map .i),.l [.i 0],.c (aa (.l 0)),.c (aa (.l 1)),.c ah] H)
  (hp:0<ns.length) (hn:ns.length<=20) (hf:H.get? f=aa (uA fd)) (D:fd.closure=[(S "nums",L+1+1+1),(S "at",L+1+1)]) (hO:tL (p9 pw w hh) "take" fd fd_take (rO ln))
  (hQ:∀h,(∀b o,hh.get? b=aa o->h.heap.get? b=aa o)->h.gens=g->h.os=os->Q (.ret (.bool ai)) h):
  bp (model pw w) (rj.deeper (jD L j cd)) (storeName (jD L j cd) (S "take") (.ref f)) (λF h=>bp (model pw w) (rj.deeper (jD L j cd)) (execs (lO.body.drop 4) (jD L j cd)) Q E h) E ⟨H,g,d,tk,os⟩:=by
 have N:=m5.keeps w v hh Y kk;have O:=T.keeps kk;have B:gL (p9 pw w hh):=HV N O;have X:SR (p9 pw w hh) [a,b,L+1+1+1,L+1+1,L+1] [.l (ns.map .i),.l [.i 0],.c (aa (.l 0)),.c (aa (.l 1)),.c ah] H:=mk (p9 pw w hh) W Z;have FO:jy (p9 pw w hh) (wW L j cd) ⟨[],dP⟩ ⟨[a,b,L+1+1+1,L+1+1,L+1],[.l (ns.map .i),.l [.i 0],.c (aa (.l 0)),.c (aa (.l 1)),.c ah],⟨H,g,d,tk,os⟩⟩:=DH A rfl (.inl rfl) rfl rfl rfl hL;have V:VR (p9 pw w hh) [a,b,L+1+1+1,L+1+1,L+1] H Tactic.tk (.ref f):=.clo hf hO λx k e=>by
  rw[D];have m:=ei e;simp only[bw,bF,jM,xx]at m;rcases m with⟨rfl,rfl⟩|⟨rfl,rfl⟩
  ·exact aY _ rfl rfl
  ·exact aY _ rfl rfl
 refine tP (X:=wW L j cd) (z:=⟨[a,b,L+1+1+1,L+1+1,L+1],[.l (ns.map .i),.l [.i 0],.c (aa (.l 0)),.c (aa (.l 1)),.c ah],⟨H,g,d,tk,os⟩⟩) (y:="take") (fr:=⟨[],dP⟩) (by kernel_rfl!) (by kernel_rfl!) (Gb (n:=621) t (bf _)) X FO V λh2 Wc G F2 F=>?_;refine pR (TV hp (dI hn #[0])) λfr' σ' hv=>?_;have K1:=Gc (bf 621) t G.sr F2;have K:=Ox (X:=wW L j cd) (m:=50) (n:=621) B (F_ (prog:=pw) N O.nolimit) rfl (CN L j cd) (asts:=lO.body.drop 4) (is:=pX.b) RQ Ow K1 hv;refine bS K (λfo P r=>?_) λF F e=>e.elim;refine G4 r ?_;clear r;intro Wd I _ u J M;obtain rfl:=J;obtain rfl:u=.bool ai:=M.bool_e rfl;have w1:∀r o,hh.get? r=aa o->P.heap.get? r=aa o:=λr o q=>I.sr.base r o q;exact hQ P w1 (I.gens.trans G.gens) (I.os.trans G.os)
theorem VI:LawRest:=by
 intro w f h g d tk os Wf p loose mg mb m L fa c P D D' ys o' cN cA cT l E Q Y T R F N d1 d2 d3 hI hl hD hQ;have Yg:=JA Y R;have y:=ghost_top R T;have s:(m4 f [(c,P)]).get? P=ah:=uh _ (.head _);have j:h.get? P=aa (tabObj #[]):=(N _ (.tail _ (.tail _ (.tail _ (.tail _ (.tail _ (.head _))))))).1;have u:P≠L:=(N _ (.tail _ (.tail _ (.tail _ (.tail _ (.tail _ (.head _))))))).2.1;have z:News (m4 f [(c,P)]) L h [(D,LCg.lst ys),(L+1+1+1,cN),(L+1+1,cA),(L+1,cT)]:=λq hq=>N q (by
  simp only[bw,bF,jM]at hq⊢;rcases hq with h|h|h|h
  ·exact .inl h
  ·exact .inr (.inr (.inl h))
  ·exact .inr (.inr (.inr (.inl h)))
  ·exact .inr (.inr (.inr (.inr (.inl h)))))
 have i:P≠D/\P≠L+1+1+1/\P≠L+1+1/\P≠L+1:=by
  refine jB (λq=>?_) (λq=>?_) (λq=>?_) (λq=>?_)
  ·have:=(z _ (.head _)).1;rw[<-q,j]at this;cases this
  ·have:=(z _ (.tail _ (.head _))).1;rw[<-q,j]at this;cases this;cases d1
  ·have:=(z _ (.tail _ (.tail _ (.head _)))).1;rw[<-q,j]at this;cases this;cases d2
  ·have:=(z _ (.tail _ (.tail _ (.tail _ (.head _))))).1;rw[<-q,j]at this;cases this;cases d3
 have hb:lO.body.drop 1=(lO.body.drop 1).take 2++lO.body.drop 3:=(dC 2 (lO.body.drop 1)).symm;rw[hb];refine zg (LZ Yg y F z d1 d2 d3 hI hl hD λs' a b ns hp hn eg eo k1 k2 ⟨m',v⟩ U V mk=>?_);have W:s'.heap.get? P=aa (tabObj #[]):=k2 P _ u i.1 i.2.1 i.2.2.1 i.2.2.2 j;have A:P∉[a,b,L+1+1+1,L+1+1,L+1]:=λq=>by
  rcases(V P q).2.2 _ j with q|q|q|q
  ·exact i.1 q
  ·exact i.2.1 q
  ·exact i.2.2.1 q
  ·exact i.2.2.2 q
 rw[US];refine dp (eK RV) λe1 K=>?_;refine gS (nestDef_K (dD e1) (dD K) (T8 _ _ _) (makeFunction_K (RU _ _ _) rfl (y.g.keeps k1) rfl ((ghost_code R).1.keeps k1) W trivial rfl ?_ ?_ λM X Z h' Wg hx Wc Wh n B=>?_))
 ·exactλq=>by refine kN y.g λo es ep e u0=>?_;rw[show kH=P from q,s]at e;cases e
 ·obtain⟨bm,ob,b1,b2,O,b4,b5,b6⟩:=y.bmain;refine⟨bm,ob,b1,b2,λq=>?_,λq=>?_,k1 _ _ O,b4,b5,b6⟩
  ·refine lq y.g λo es ep e K u0=>?_;rw[<-q,O]at e;cases e;rw[b6]at K;cases K
  ·rw[show bm=P from q,s]at O;cases O
 ·have hk:∀b o,b≠P->s'.heap.get? b=aa o->h'.get? b=aa o:=hx;have kg:∀r o,(m4 f [(c,P)]).get? r=aa o->(h'.push (uA (T9 (qualnameIn (jD L fa (.ref c)) (S "take") (S "take")) [(S "nums",L+1+1+1),(S "at",L+1+1)] Z ((mg "__name__").getD .none) M X))).get? r=aa o:=λr o e=>
   bN _ (hk r o (λq=>by rw[q,s]at e;cases e) (k1 r o e))
  have Wd:(m4 f [(c,P)]).get? L=ah:=eL F.above;have C:M∉L::[a,b,L+1+1+1,L+1+1,L+1]:=λq=>by
   have k:s'.heap.get? M=ah:=eL Wc;rcases bw.mp q with q|q
   ·refine kN v ?_;clear v;intro o _ _ e _;rw[q,e]at k;cases k
   ·refine ck ((V M q).2.1) λo e=>?_;rw[e]at k;cases k
  have G:P∉L::[a,b,L+1+1+1,L+1+1,L+1]:=λq=>(bw.mp q).elim u A;have x:∀r o,(m4 f [(c,P)]).get? r=aa o->r∉L::[a,b,L+1+1+1,L+1+1,L+1]:=λr o e q=>by
   rcases bw.mp q with q|q
   ·rw[q,Wd]at e;cases e
   ·rw[(V r q).1]at e;cases e
  have H:∀r∈[a,b,L+1+1+1,L+1+1,L+1],r∈L::[a,b,L+1+1+1,L+1+1,L+1]:=λr I=>aK _ I;have J:L∈L::[a,b,L+1+1+1,L+1+1,L+1]:=aH;generalize L::[a,b,L+1+1+1,L+1+1,L+1]=l6 at C G x H J;refine RY (hh:=yX _ l6) Yg y (λr o e=>mZ _ (kg r o e) (x r o e)) (λr o e=>of_hideAll _ e) ?_ ?_ (Ns.at v λo e=>bN _ (hk L o u.symm e)) U (λc2 q1 q2=>mk c2 _ (λr o I e=>bN _ (hk r o (λq=>A (q▸I)) e)) q1 q2) hp hn (dF _ rfl) rfl (UU ?_) λWe q1 q2 q3=>?_
  ·exactλr I=>uh _ (H r I)
  ·exact uh _ J
  ·refine lE n ?_;clear n;intro c0 o vs t e h1 h2 h3;cases e;exact pn _ o vs t rfl (mZ _ (bN _ h1) C) h2 h3
  ·exact hQ We (λr o e=>q1 r o (mZ _ (kg r o e) (x r o e))) (q2.trans eg) (q3.trans eo) ⟨_,q1 P _ (mZ _ (bN _ B) G)⟩
end
end Mine.Tactic
theorem PySem.Challenge.cw_or0003_01_holds : PySem.Challenge.rw_or0003_01.Holds :=
 Mine.Tactic.VH Mine.Tactic.VI
