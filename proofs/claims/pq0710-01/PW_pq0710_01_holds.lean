import PyProof.Rows.All
import Wide.All
import OpenK.AllK
import KE.KDictSum
import KE.KSortKey
import KE.KItem
import Wide.FinOn
import Lean
import PySem.Challenge.RW_pq0710_01
set_option tactic.hygienic false
set_option Elab.async false
set_option genSizeOf false
set_option genInjectivity false
set_option genCtorIdx false
set_option bootstrap.genMatcherCode false
set_option backward.match.sparseCases false
set_option compiler.extract_closed false
set_option maxRecDepth 1000000
set_option maxHeartbeats 0
set_option linter.unusedVariables false
set_option linter.unusedSimpArgs false
namespace Mine.Internal
open PySem PySem.W PySem.Calls PyProof.Rows PySem.SeqAt
open _root_ renaming And.intro->Cd,Array->dS,Array.any_toList->P9,Array.getElem?_eq_none->IT,Array.getElem?_toList->yY,Array.getElem_toList->P_,Array.length_toList->hX,Array.mem_toList_iff->Ce,Array.mk->IU,Array.perm_iff_toList_perm->Qa,Array.size_push->Qb,Array.toArray_toList->IV,Array.toList_push->IW,Bool->ah,Bool.and_assoc->IZ,Bool.and_eq_true->tR,Bool.and_eq_true_iff->aN,Bool.and_false->Qe,Bool.false_ne_true->fY,Bool.false_or->Cf,Bool.noConfusion->mQ,Bool.not_eq_true'->wi,Bool.or_assoc->Qf,Bool.or_eq_true_iff->k_,Bool.or_false->qr,Bool.rec->bN,Bool.xor->qt,Decidable.byContradiction->Ql,DecidableEq->jw,Exists.elim->bw,False->dP,ForIn.forIn->sE,ForInStep->rG,ForInStep.yield->rH,Int->ba,Int.add_lt_add_right->Qs,Int.add_sub_cancel->I6,Int.eq_ofNat_of_zero_le->I7,Int.fdiv->I8,Int.fmod->o9,Int.le_of_eq->I9,Int.le_of_lt->rI,Int.le_refl->I_,Int.le_trans->wt,Int.lt_trans->rJ,Int.natCast_nonneg->Cn,Int.natCast_pos->Ja,Int.negSucc_lt_zero->Qt,Int.ofNat->tW,Int.ofNat_le->Qu,Int.ofNat_lt->Qv,Int.toNat_natCast->Qw,Int.zero_add->Qx,LawfulBEq.eq_of_beq->pI,LawfulMonad.pure_bind->vL,List->G,List.Nodup.sublist->Co,List.all_cons->Qz,List.all_eq_true->l9,List.any_cons->qy,List.any_eq_false->zc,List.any_eq_true->zd,List.any_map->Cp,List.any_nil->QA,List.any_reverse->wy,List.append_assoc->l_,List.append_nil->h_,List.cons.inj->qz,List.cons_append->Jf,List.cons_lt_cons_iff->QB,List.cons_ne_nil->QC,List.dropLast_eq_take->ze,List.drop_drop->QD,List.drop_nil->QE,List.drop_zero->Cq,List.eq_nil_of_length_eq_zero->Jg,List.eraseDups_cons->QF,List.ext_getElem->QG,List.filterMap_cons->zf,List.filter_append->QH,List.filter_cons->QI,List.filter_cons_of_pos->QJ,List.filter_eq_self->Jh,List.flatMap_append->QK,List.flatten_cons->Ji,List.foldl->Jj,List.foldl_cons->Jk,List.forIn_cons->o_,List.forIn_nil->wz,List.getD->qA,List.getD_eq_getElem?_getD->Cr,List.getElem?_append_left->iD,List.getElem?_append_right->mS,List.getElem?_drop->Cs,List.getElem?_eq_getElem->cV,List.getElem?_eq_none->Jl,List.getElem?_eq_none_iff->Jm,List.getElem?_eq_some_iff->eM,List.getElem?_map->tZ,List.getElem?_range->QL,List.getElem_inj->rK,List.getElem_map->QM,List.getElem_mem->zg,List.getElem_of_mem->iE,List.getElem_range->QN,List.isEmpty_iff->Jn,List.length->zh,List.length_append->fy,List.length_cons->iQ,List.length_drop->rL,List.length_dropLast->QO,List.length_eq_zero_iff->wA,List.length_filter_le->QP,List.length_map->cZ,List.length_nil->rM,List.length_range->wB,List.length_replicate->dZ,List.length_reverse->ez,List.length_take->zj,List.length_zip->Ct,List.lookup_cons->jM,List.lt_irrefl->Jo,List.lt_trans->QR,List.map->Cu,List.map_append->rN,List.map_congr_left->QS,List.map_cons->lj,List.map_drop->QT,List.map_eq_nil_iff->Cw,List.map_fst_zip->QU,List.map_map->zk,List.map_replicate->Jp,List.map_reverse->Cy,List.map_singleton->QV,List.map_take->QW,List.mem_append->dI,List.mem_append_left->iR,List.mem_append_right->fC,List.mem_cons->bY,List.mem_cons_of_mem->QX,List.mem_cons_self->QY,List.mem_filter->t7,List.mem_filterMap->Jq,List.mem_flatMap->mc,List.mem_map->cF,List.mem_map_of_mem->QZ,List.mem_of_getElem?->dy,List.mem_range->md,List.mem_replicate->Q0,List.mem_reverse->qB,List.mem_singleton->cA,List.nil_prefix->wC,List.nodup_append->wD,List.nodup_cons->ic,List.nodup_nil->rO,List.not_lt->Q1,List.not_mem_nil->eP,List.pairwise_cons->Q2,List.pairwise_iff_getElem->Cz,List.prefix_append->wF,List.prefix_refl->mT,List.range->fZ,List.rec->b9,List.replicate->dh,List.replicate_succ->Jr,List.reverse_append->zm,List.reverse_cons->rP,List.reverse_replicate->Q3,List.reverse_reverse->mU,List.set_comm->Q4,List.size_toArray->t8,List.take_nil->Q5,List.take_of_length_le->Q6,List.take_prefix->Q7,List.unzip_fst->Q8,List.unzip_snd->Q9,List.zipIdx_cons->CA,List.zipWith->CB,List.zip_cons_cons->CD,List.zip_unzip->Q_,Nat->H,Nat.add_assoc->ph,Nat.add_comm->mV,Nat.add_le_add->CE,Nat.add_le_add_left->CF,Nat.add_le_add_right->ua,Nat.add_lt_add_left->Jt,Nat.add_lt_add_right->Ra,Nat.add_right_comm->Ju,Nat.add_sub_cancel->Rb,Nat.add_sub_cancel_left->jO,Nat.add_sub_of_le->wG,Nat.add_zero->CG,Nat.beq->bA,Nat.beq_refl->CH,Nat.ble->eB,Nat.ble_eq_true_of_le->Jv,Nat.blt->dB,Nat.div->rR,Nat.div_add_mod->uc,Nat.eq_of_beq_eq_true->dU,Nat.exists_eq_add_of_le->CI,Nat.exists_eq_succ_of_ne_zero->CJ,Nat.le_add_left->ud,Nat.le_add_right->ig,Nat.le_of_add_le_add_left->Rc,Nat.le_of_ble_eq_true->dw,Nat.le_of_eq->CK,Nat.le_of_lt->rS,Nat.le_of_succ_le->Rd,Nat.le_of_succ_le_succ->Jw,Nat.le_refl->fG,Nat.le_succ->ue,Nat.le_trans->dQ,Nat.le_zero->Jx,Nat.lt_irrefl->zo,Nat.lt_of_le_of_lt->zp,Nat.lt_of_lt_of_le->nY,Nat.lt_of_succ_lt_succ->Jy,Nat.lt_succ_iff_lt_or_eq->Rf,Nat.lt_succ_of_le->rT,Nat.lt_succ_of_lt->Jz,Nat.lt_succ_self->Rg,Nat.min_eq_left->Rh,Nat.min_le_right->Ri,Nat.min_self->wH,Nat.mod->uf,Nat.mod_two_ne_one->Rj,Nat.mul_comm->Rk,Nat.mul_le_mul->Rl,Nat.mul_le_mul_left->Rm,Nat.mul_succ->Rn,Nat.ne_of_beq_eq_false->CL,Nat.ne_of_gt->wI,Nat.ne_of_lt->rU,Nat.not_le_of_lt->Ro,Nat.not_lt->g7,Nat.not_lt_of_le->Rp,Nat.not_lt_zero->zq,Nat.pred->wJ,Nat.rec->nZ,Nat.sub_add_cancel->Rq,Nat.sub_le->JA,Nat.sub_pos_of_lt->Rr,Nat.sub_self->Rt,Nat.sub_sub->Ru,Nat.sub_sub_self->JB,Nat.succ->cX,Nat.succ.inj->lu,Nat.succ_add_eq_add_succ->Rv,Nat.succ_le_succ->n4,Nat.succ_lt_succ->zr,Nat.succ_ne_zero->rV,Nat.succ_pos->ug,Nat.succ_pred->Rw,Nat.toDigits->CM,Nat.toDigits_of_lt_base->Rx,Nat.zero_add->uh,Nat.zero_le->gD,Nat.zero_lt_succ->CN,Ne.symm->n7,Option->aa,Option.bind->Rz,Option.bind_assoc->CP,Option.bind_eq_some_iff->uj,Option.isNone->RA,Option.isNone_iff_eq_none->RB,Option.isSome_iff_exists->JC,Option.map_eq_some_iff->zt,Option.map_some->JD,Option.or_none->RC,Option.rec->CQ,Option.some->zu,Option.some.inj->aM,Or.elim->dC,PUnit->CS,Prod.mk.inj->iS,Prod.mk.injEq->JG,PyProof.Rows.SortedToK->zB,PyProof.Rows.StrsAre->n9,PyProof.Rows.arrOf->jS,PyProof.Rows.entry_list_sort->RE,PyProof.Rows.get?_update_seq->Ez,PyProof.Rows.getItem_tuple->RF,PyProof.Rows.listUpdate_at->FU,PyProof.Rows.seqObj->eS,PyProof.Rows.size_push'->HB,PyProof.Rows.slot_list_sort->RG,PyProof.Rows.strKind->rW,PyProof.Rows.sub_int->RH,PyProof.Rows.subscriptTail->O3,PyProof.Rows.tail_any->yI,PySem.Addr->aA,PySem.Around->bG,PySem.Builtin->nT,PySem.Builtin.Dict.updateFrom->Qg,PySem.Builtin.Range.rangeSize->wj,PySem.Builtin.Range.small->Qh,PySem.Builtin.SmallTypes.nextOf->tT,PySem.Builtin.Str.glued->Qi,PySem.Builtin.Str.strKind->Qj,PySem.Calls.evalArgs_plain->Lp,PySem.Challenge.pw_pq0710_01->RI,PySem.Challenge.rw_pq0710_01->n8,PySem.Code.builtin->I0,PySem.Comprehension->rE,PySem.DictEntry->tU,PySem.Env->cK,PySem.Env.kindOf->y8,PySem.Expr->JH,PySem.Expr->aX,PySem.F.args_dict_pop_3->CU,PySem.F.args_tuple_add_2->JI,PySem.F.args_tuple_iterator_next_1->Qm,PySem.F.entry_dict_pop->CV,PySem.F.entry_tuple_add->JJ,PySem.F.entry_tuple_iterator_next->Qn,PySem.F.plainAttrs_dict->RJ,PySem.F.plainAttrs_list->JK,PySem.F.plainAttrs_str->RK,PySem.F.slot_dict_get->RL,PySem.F.slot_dict_pop->zx,PySem.F.slot_list_extend->RM,PySem.F.slot_list_getattribute->JL,PySem.F.slot_list_pop->RN,PySem.F.slot_str_split->RO,PySem.F.slot_tuple_add->JM,PySem.F.slot_tuple_iterator_next->Ci,PySem.FuncData->y_,PySem.Heap->aP,PySem.Heap.DictOf.new->Cm,PySem.Heap.ExtBut->I5,PySem.Heap.SameBut->iC,PySem.Heap.SameBut.update->o8,PySem.Heap.get?_none_of_le->Qq,PySem.Heap.get?_push_ne->Qr,PySem.Heap.get?_push_of_some->lh,PySem.Heap.get?_push_size->hZ,PySem.Heap.get?_update_self->za,PySem.Heap.lt_size->wo,PySem.Heap.size_push->wq,PySem.IsPair->wu,PySem.IsPart->tX,PySem.IsZip->tY,PySem.Keeper.boundFrame->Jc,PySem.Keeper.frame->Jd,PySem.Keeper.machine->Je,PySem.NameKind->dc,PySem.NameKind.cell->pg,PySem.NameKind.free->rQ,PySem.NameKind.local->qC,PySem.Obj->jy,PySem.Obj.data_mapFields->Ry,PySem.Obj.mapSeq->fi,PySem.OsState->CR,PySem.Program->a_,PySem.PyData.strOk->g8,PySem.Sem->iT,PySem.Shared->aT,PySem.Stmt->en,PySem.Str->ar,PySem.Str.join->C7,PySem.Str.ofString->rX,PySem.Value->aw,PySem.Value.isInt->zC,PySem.Value.isStrOf->mY,PySem.Value.isStrOf_shape->JQ,PySem.Value.none->zD,PySem.Value.ref->og,PySem.Value.ref.inj->JR,PySem.W.Frag->b8,PySem.W.SharedT->qE,PySem.W.boot_heap->r8,PySem.W.callWith_of->DC,PySem.W.emptyDict->D8,PySem.W.findIn->oC,PySem.W.instObj->u4,PySem.W.lookIn->vp,PySem.W.look_both->F7,PySem.W.openEnds->GP,PySem.World->dF,PySem.World->rY,PySem.arm_eval_Call_Name'->Dh,PySem.arm_eval_Subscript->Sw,PySem.assign->m9,PySem.assignEach->wX,PySem.assignInOrder->zN,PySem.backTo->uu,PySem.behindInMarks->Dm,PySem.binaryOp->m_,PySem.bindName->Dw,PySem.builtinsNs->qH,PySem.cLine->fP,PySem.call_len_dict->Kk,PySem.call_meets->w9,PySem.call_meetsIn->zQ,PySem.cellsFrom->w_,PySem.codeAny->lB,PySem.codeAny_of_tree->zX,PySem.compareOp->iq,PySem.concat_meets->DM,PySem.execs->iH,PySem.foldedForSure->LH,PySem.foldedSetIterable->VU,PySem.getMethod_builtin->uO,PySem.getattributeRaised->Wc,PySem.hashStr->Aq,PySem.holding->xM,PySem.importedModules->Fe,PySem.intKind->lE,PySem.interactive->Mw,PySem.isTrue->RP,PySem.keywordEach->MR,PySem.letOwnedTupleGo->A2,PySem.mainGlobals->mB,PySem.meets_dict_pop_default->ZR,PySem.meets_dict_pop_there->ZT,PySem.methodCallPos->Nr,PySem.model->bK,PySem.noFill_tuple_add->NG,PySem.noteFrame->Bd,PySem.nsFind->Be,PySem.nsPutIn->tc,PySem.numAt->td,PySem.pyIter->oQ,PySem.pyNext->qh,PySem.recursionLimit->Hk,PySem.seqIndex?->Hw,PySem.seqItems?->tD,PySem.seq_tuple_add->Oz,PySem.sizeLine->rp,PySem.sizeLine_eq->rq,PySem.slicePick->BM,PySem.slot_list_getitem->OF,PySem.standAt->tH,PySem.starEach->rt,PySem.storeAll->JN,PySem.stored->j_,PySem.strKind->gE,PySem.swappedStores->vV,PySem.sysModules->tK,PySem.theTreesLotGoes->Ic,PySem.treeTable->B0,PySem.typeIs_str->Po,PySem.valueAt->k8,PySem.without->yT,PySem.wpAny->bo,PySem.wpAny_assign_Name->afu,PySem.wpAny_attempt->PS,PySem.wpAny_bind->aO,PySem.wpAny_call->B_,PySem.wpAny_callSpecial?_slot->PT,PySem.wpAny_call_entry->IC,PySem.wpAny_dictSet_pairs->afv,PySem.wpAny_execs_nil->ID,PySem.wpAny_field->tP,PySem.wpAny_holding->iP,PySem.wpAny_isTrue_BoolOp->afw,PySem.wpAny_list_append_plain->afx,PySem.wpAny_mono->qq,PySem.wpAny_newList->IE,PySem.wpAny_newObj_type->PU,PySem.wpAny_noted->IF,PySem.wpAny_onRaise->IG,PySem.wpAny_pure->bX,PySem.wpAny_pyIter_list->Ca,PySem.wpAny_pyIter_listiter->afy,PySem.wpAny_pyIter_tuple->afz,PySem.wpAny_pyNext_list_end->PX,PySem.wpAny_pyNext_list_item->PY,PySem.wpAny_rule->yU,PySem.wpAny_seqItems->yV,PySem.wpAny_setField_rec->IH,PySem.wpAny_setItem_pairs->afA,PySem.wpAny_standAt->ju,PySem.wpAny_storeName_local->afB,PySem.wpAny_truthy_bool->II,String->C8,True->jz,Unit->mX,absurd->bP,beq_eq_false_iff_ne->mn,beq_iff_eq->qG,beq_self_eq_true->r7,congrArg->cq,decide_eq_false->jf,decide_eq_true->ix,decide_eq_true_eq->KN,decide_false->T5,if_neg->bk,if_pos->bT,inferInstance->Mu,not_false_eq_true->aaE,of_decide_eq_true->NS,or_false->gH
set_option genCtorIdx true in
inductive Bi where
 |list|tuple|dict|str|int|len|max|sum|min|sorted|range|zip
noncomputable def Bi.value:Bi->aw
 |.list=>.type "list" |.tuple=>.type "tuple" |.dict=>.type "dict" |.str=>.type "str" |.int=>.type "int"
 |.len=>.builtin "len" |.max=>.builtin "max" |.sum=>.builtin "sum" |.min=>.builtin "min" |.sorted=>.builtin "sorted" |.range=>.type "range" |.zip=>.type "zip"
inductive FK where
 |list (b:H)|dict (ks:G ar)|inst (aq:H) (ks:G ar)
noncomputable def FK.ctorIdx(x:FK):H:=@FK.rec (λ_=>H) (λ_=>0) (λ_=>1) (λ_ _=>2) x
inductive D where
 |none|bool (b:ah)|int (i:ba)|str (s:ar)|tup (B:G D)|ref (i:H)|fn (a:H)|bi (b:Bi)|fuel (k:H)|aD (k:FK) (B:G D)|any|tok (i:H)
noncomputable def D.ctorIdx(x:D):H:=@D.casesOn (λ_=>H) x 0 (λ_=>1) (λ_=>2) (λ_=>3) (λ_=>4) (λ_=>5) (λ_=>6) (λ_=>7) (λ_=>8) (λ_ _=>9) 10 (λ_=>11)
inductive cL where
 |list (b:H) (r:G D)|dict (R:G (D×D))|inst (aq d:H)|dj
noncomputable def cL.ctorIdx(x:cL):H:=@cL.rec (λ_=>H) (λ_ _=>0) (λ_=>1) (λ_ _=>2) 3 x
inductive MT where
 |nil|node (v:cL) (B r:MT)
namespace MT
noncomputable def get(t:MT):H->aa cL:=@MT.rec (λ_=>H->aa cL) (λ_=>.none) (λv _ _ B r i=>@bN (λ_=>aa cL) (@bN (λ_=>aa cL) (r (wJ (rR i 2))) (B (rR i 2)) (bA (uf i 2) 1)) (some v) (bA i 0)) t
noncomputable def set(t:MT):H->cL->MT:=@MT.rec (λ_=>H->cL->MT) (λ_ _=>.nil) (λv tl tr B r i E=>@bN (λ_=>MT) (@bN (λ_=>MT) (.node v tl (r (wJ (rR i 2)) E)) (.node v (B (rR i 2) E) tr) (bA (uf i 2) 1)) (.node E tl tr) (bA i 0)) t
noncomputable def ins(t:MT):H->cL->MT:=@MT.rec (λ_=>H->cL->MT) (λ_ E=>.node E .nil .nil) (λv tl tr B r i E=>@bN (λ_=>MT) (@bN (λ_=>MT) (.node v tl (r (wJ (rR i 2)) E)) (.node v (B (rR i 2) E) tr) (bA (uf i 2) 1)) (.node E tl tr) (bA i 0)) t
end MT
structure MH where
 t:MT
 n:H
noncomputable def vj(x:G H):G H->ah:=
 @b9 H (λ_=>G H->ah) (λy=>@b9 H (λ_=>ah) true (λ_ _ _=>false) y)
  (λa _ O y=>@b9 H (λ_=>ah) false (λb t _=>@bN (λ_=>ah) false (O t) (bA a b)) y) x
noncomputable def seq(a b:ar):ah:=vj a.1.1 b.1.1
noncomputable def g_{α:Type}(B:G (ar×α))(x:ar):aa α:=@b9 (ar×α) (λ_=>aa α) .none (λp _ O=>@bN (λ_=>aa α) O (some p.2) (seq p.1 x)) B
noncomputable def fJ{α:Type}(B:G α):H->aa α:=@b9 α (λ_=>H->aa α) (λ_=>.none) (λa _ O k=>@bN (λ_=>aa α) (O (wJ k)) (some a) (bA k 0)) B
noncomputable def qa{α:Type}(B:G α):H->α->G α:=@b9 α (λ_=>H->α->G α) (λ_ _=>[]) (λa r O k v=>@bN (λ_=>G α) (a::O (wJ k) v) (v::r) (bA k 0)) B
noncomputable def jG{α:Type}(B:G α):ah:=eB B.length 4096
noncomputable def app{α:Type}(B m:G α):G α:=@b9 α (λ_=>G α) m (λa _ O=>a::O) B
noncomputable def Ho{α:Type}(B:G α):G α->G α:=@b9 α (λ_=>G α->G α) (λm=>m) (λa _ O m=>O (a::m)) B
noncomputable def rv{α:Type}(B:G α):G α:=Ho B []
noncomputable def ltZ:ba->ba->ah
 |.ofNat m,.ofNat n=>dB m n
 |.ofNat _,.negSucc _=>false
 |.negSucc _,.ofNat _=>true
 |.negSucc m,.negSucc n=>dB n m
noncomputable def eqZ:ba->ba->ah
 |.ofNat m,.ofNat n=>bA m n
 |.negSucc m,.negSucc n=>bA m n
 |_,_=>false
noncomputable def Ee:D->H->aa ah
 |.none,_=>some true
 |.tup _,_=>some false
 |.str _,_=>some false
 |.int _,_=>some false
 |_,_=>.none
noncomputable def eqBool(x:ah):D->H->aa ah
 |.bool y,_=>some (!(qt x y))
 |_,_=>.none
noncomputable def Ed(x:ba):D->H->aa ah
 |.int y,_=>some (eqZ x y)
 |.none,_=>some false
 |.str _,_=>some false
 |.tup _,_=>some false
 |_,_=>.none
noncomputable def eqStr(x:ar):D->H->aa ah
 |.str y,_=>some (seq x y)
 |.none,_=>some false
 |.int _,_=>some false
 |.tup _,_=>some false
 |_,_=>.none
noncomputable def uF(f:G D->H->aa ah):D->H->aa ah
 |.tup m,n=>match n with
  |0=>.none
  |n+1=>f m n
 |.none,_=>some false
 |.str _,_=>some false
 |.int _,_=>some false
 |_,_=>.none
noncomputable def pA(a b:aa ah):aa ah:=match a with
 |some x=>match b with
  |some y=>some (x&&y)
  |.none=>.none
 |.none=>.none
noncomputable def gV(a:D):D->H->aa ah:=@D.rec (λ_=>D->H->aa ah) (λ_=>G D->H->aa ah)
 Ee eqBool Ed eqStr (λ_ f=>uF f) (λ_ _ _=>.none) (λ_ _ _=>.none) (λ_ _ _=>.none) (λ_ _ _=>.none) (λ_ _ _ _ _=>.none) (λ_ _=>.none) (λ_ _ _=>.none)
 (λm _=>@b9 D (λ_=>aa ah) (some true) (λ_ _ _=>some false) m)
 (λ_ _ ha hl m n=>@b9 D (λ_=>aa ah) (some false) (λb r _=>pA (ha b n) (hl r n)) m) a
noncomputable def q7(a b:D):aa ah:=gV a b 40
noncomputable def GS(a b:aa ah):aa ah:=match a with
 |some x=>match b with
  |some y=>some (x||y)
  |.none=>.none
 |.none=>.none
noncomputable def Bb(v:D)(B:G D):aa ah:=@b9 D (λ_=>aa ah) (some false) (λa _ O=>GS (q7 a v) O) B
noncomputable def isKey:D->ah
 |.str _=>true
 |.int _=>true
 |_=>false
noncomputable def iz(a b:D):ah:=match a with
 |.str x=>match b with
  |.str y=>seq x y
  |_=>false
 |.int x=>match b with
  |.int y=>eqZ x y
  |_=>false
 |_=>false
noncomputable def sm(R:G (D×D))(x:D):aa D:=@b9 (D×D) (λ_=>aa D) .none (λp _ O=>@bN (λ_=>aa D) O (some p.2) (iz p.1 x)) R
noncomputable def sq(R:G (D×D))(x v:D):G (D×D):=@b9 (D×D) (λ_=>G (D×D)) [(x,v)] (λp r O=>@bN (λ_=>G (D×D)) (p::O) ((p.1,v)::r) (iz p.1 x)) R
noncomputable def se(R:G (D×D))(x:D):G (D×D):=@b9 (D×D) (λ_=>G (D×D)) [] (λp r O=>@bN (λ_=>G (D×D)) (p::O) r (iz p.1 x)) R
noncomputable def BC(a b:D):ah:=match a with
 |.str _=>match b with
  |.str _=>true
  |_=>false
 |.int _=>match b with
  |.int _=>true
  |_=>false
 |_=>false
noncomputable def keysOk(R:G (D×D))(x:D):ah:=@b9 (D×D) (λ_=>ah) (isKey x) (λp _ O=>@bN (λ_=>ah) false O (BC p.1 x)) R
noncomputable def ih(R:G (D×D))(x:D):aa (aa D):=match keysOk R x with
 |true=>some (sm R x)
 |false=>.none
noncomputable def dput(R:G (D×D))(x v:D):aa (G (D×D)):=match keysOk R x with
 |true=>some (sq R x v)
 |false=>.none
inductive It where
 |lst (i k:H)
 |tup (B:G D)
 |bz (B:G D)
 |range (k n:ba)
 |zip (a b:It)
noncomputable def listAt(o:MH)(i:H):aa (G D):=match o.t.get i with
 |some E=>match E with
  |.list _ r=>some (rv r)
  |_=>.none
 |.none=>.none
noncomputable def dictAt(o:MH)(i:H):aa (G (D×D)):=match o.t.get i with
 |some E=>match E with
  |.dict B=>some B
  |_=>.none
 |.none=>.none
noncomputable def AR(o:MH)(i:H):aa (H×H):=match o.t.get i with
 |some E=>match E with
  |.inst aq d=>some (aq,d)
  |_=>.none
 |.none=>.none
noncomputable def IK(x y:aa (aa (D×It))):aa (aa (D×It)):=match x with
 |some x=>match x with
  |some p=>match y with
   |some y=>match y with
    |some q=>some (some (.tup [p.1,q.1],.zip p.2 q.2))
    |.none=>some .none
   |.none=>.none
  |.none=>some .none
 |.none=>.none
noncomputable def e_(o:MH):It->aa (aa (D×It))
 |.lst i k=>match listAt o i with
  |some B=>match fJ B k with
   |some v=>some (some (v,.lst i (cX k)))
   |.none=>some .none
  |.none=>.none
 |.tup B=>match B with
  |[]=>some .none
  |v::r=>some (some (v,.tup r))
 |.bz B=>match B with
  |[]=>some .none
  |v::r=>some (some (v,.bz r))
 |.range k n=>match ltZ k n with
  |true=>some (some (.int k,.range (k+1) n))
  |false=>some .none
 |.zip a b=>IK (e_ o a) (e_ o b)
noncomputable def pV(o:MH):D->aa It
 |.tup B=>some (.tup B)
 |.ref i=>match o.t.get i with
  |some E=>match E with
   |.list _ _=>some (.lst i 0)
   |_=>.none
  |.none=>.none
 |.aD k B=>match k with
  |.list _=>some (.bz B)
  |_=>.none
 |_=>.none
noncomputable def itemsOf(o:MH):D->aa (G D)
 |.tup B=>some B
 |.ref i=>listAt o i
 |.aD k B=>match k with
  |.list _=>some B
  |_=>.none
 |_=>.none
noncomputable def eV(o:MH):D->aa (H×G D)
 |.ref i=>match o.t.get i with
  |some E=>match E with
   |.list b r=>some (b,r)
   |_=>.none
  |.none=>.none
 |.aD k B=>match k with
  |.list b=>some (b,rv B)
  |_=>.none
 |_=>.none
noncomputable def BG(o:MH):D->aa (H×G D)
 |.tup B=>some (B.length,rv B)
 |v=>eV o v
noncomputable def acX:ar:=⟨⟨[97,112,112,101,110,100]⟩⟩
noncomputable def acY:ar:=⟨⟨[101,120,116,101,110,100]⟩⟩
noncomputable def s_pop:ar:=⟨⟨[112,111,112]⟩⟩
noncomputable def Hu:ar:=⟨⟨[103,101,116]⟩⟩
noncomputable def acZ:ar:=⟨⟨[106,111,105,110]⟩⟩
noncomputable def s_split:ar:=⟨⟨[115,112,108,105,116]⟩⟩
noncomputable def tC:ar:=⟨⟨[95,95,100,101,98,117,103,95,95]⟩⟩
noncomputable def vO:ar:=⟨⟨[107,101,121]⟩⟩
noncomputable def Hv:ar:=⟨⟨[95,95,105,110,105,116,95,95]⟩⟩
inductive Slot where
 |loc (k:H)|glob (v:D)|jT (k:H)|free (k:H)|bad
structure Cx where
 sc:G (ar×dc)
 comp:aa (G (ar×dc))
structure Fm where
 vars:G (aa D)
 jU:G (aa D)
inductive f_ where
 |val (v:D)|new (E:cL)|bad
inductive eh where
 |next|ret (v:D)
structure Fn where
 hO:H
 jg:G D
 body:G en
 sc:G (ar×dc)
structure bQ where
 glob:ar->aa D
 fn:H->aa Fn
 cls:H->aa (G (ar×H)×G ar)
 pull:H
 gX:H->G D->MH->aa (H×D×MH)
 rz:H->aa D
 eqv:D->D->aa ah
noncomputable def yO(W:bQ)(v:D):D:=match v with
 |.tok i=>match W.rz i with
  |some m=>m
  |.none=>v
 |_=>v
noncomputable def idxOf(B:G (ar×dc))(x:ar):H->aa (H×dc):=@b9 (ar×dc) (λ_=>H->aa (H×dc)) (λ_=>.none) (λp _ O n=>@bN (λ_=>aa (H×dc)) (O (cX n)) (some (n,p.2)) (seq p.1 x)) B
noncomputable def slotIn(W:bQ)(sc:G (ar×dc))(x:ar):Slot:=match idxOf sc x 0 with
 |some p=>match p.2 with
  |.local=>.loc p.1
  |.cell=>.loc p.1
  |.globalImplicit=>match W.glob x with
   |some v=>.glob v
   |.none=>.bad
  |_=>.bad
 |.none=>.bad
noncomputable def vR(W:bQ)(sc cB:G (ar×dc))(x:ar):Slot:=match idxOf cB x 0 with
 |some p=>match p.2 with
  |.local=>.jT p.1
  |.free=>match idxOf sc x 0 with
   |some q=>match q.2 with
    |.cell=>.free q.1
    |_=>.bad
   |.none=>.bad
  |.globalImplicit=>match W.glob x with
   |some v=>.glob v
   |.none=>.bad
  |_=>.bad
 |.none=>.bad
noncomputable def kQ(W:bQ)(cx:Cx)(x:ar):Slot:=match cx.comp with
 |.none=>slotIn W cx.sc x
 |some cB=>vR W cx.sc cB x
noncomputable def kN{α:Type}(E:aa (aa α)):aa α:=match E with
 |some x=>x
 |.none=>.none
noncomputable def nameOf(W:bQ)(cx:Cx)(fr:Fm)(x:ar):aa D:=match kQ W cx x with
 |.loc k=>kN (fJ fr.vars k)
 |.glob v=>some v
 |.jT k=>kN (fJ fr.jU k)
 |.free k=>kN (fJ fr.vars k)
 |.bad=>.none
noncomputable def store(W:bQ)(cx:Cx)(fr:Fm)(x:ar)(v:D):aa Fm:=match kQ W cx x with
 |.loc k=>some ⟨qa fr.vars k (some v),fr.jU⟩
 |.jT k=>some ⟨fr.vars,qa fr.jU k (some v)⟩
 |_=>.none
inductive VT where
 |name (x:ar)|tup (ts:G aX)|attr (E:aX) (x:ar)|item (E i:aX)|bad
noncomputable def qo:aX->VT
 |.Name x _=>.name x
 |.Tuple ts _ _=>.tup ts
 |.Attribute E x _=>.attr E x
 |.Subscript E i _=>match i with
  |.Slice _ _ _ _=>.bad
  |i=>.item E i
 |_=>.bad
noncomputable def storeAll(W:bQ)(cx:Cx)(ts:G aX):G D->Fm->aa Fm:=@b9 aX (λ_=>G D->Fm->aa Fm)
 (λV fr=>match V with
  |[]=>some fr
  |_::_=>.none)
 (λt _ O V fr=>match V with
  |[]=>.none
  |v::V=>match qo t with
   |.name x=>match store W cx fr x v with
    |some fr=>O V fr
    |.none=>.none
   |_=>.none) ts
noncomputable def pC(W:bQ)(cx:Cx)(fr:Fm)(t:aX)(v:D):aa Fm:=match qo t with
 |.name x=>store W cx fr x v
 |.tup ts=>match v with
  |.tup B=>storeAll W cx ts B fr
  |_=>.none
 |_=>.none
section ops
variable(o:MH)
noncomputable def cmpInt(f:ba->ba->ah)(a b:D):aa ah:=match a with
 |.int x=>match b with
  |.int y=>some (f x y)
  |_=>.none
 |_=>.none
noncomputable def isNone:D->aa ah
 |.none=>some true
 |.tup _=>some false
 |.ref _=>some false
 |.aD _ _=>some false
 |_=>.none
noncomputable def uA(y:G (D×D))(x:G (D×D)):aa ah:=@b9 (D×D) (λ_=>aa ah) (some true)
 (λp _ O=>match ih y p.1 with
  |some q=>match q with
   |some u=>pA (q7 p.2 u) O
   |.none=>some false
  |.none=>.none) x
noncomputable def M7(x y:G D):aa ah:=match x with
 |[]=>match y with
  |[]=>some true
  |_::_=>some false
 |_::_=>match y with
  |[]=>some false
  |_::_=>.none
noncomputable def A5(a b:D):aa ah:=match eV o a with
 |some p=>match eV o b with
  |some q=>M7 p.2 q.2
  |.none=>.none
 |.none=>.none
noncomputable def DU(x y:G (D×D)):aa ah:=match x with
 |[]=>match y with
  |[]=>some true
  |_::_=>some false
 |p::r=>match keysOk y p.1 with
  |true=>match bA (p::r).length y.length with
   |true=>uA y (p::r)
   |false=>some false
  |false=>.none
noncomputable def uE(a b:D):aa ah:=match a with
 |.ref i=>match o.t.get i with
  |some E=>match E with
   |.list _ _=>A5 o a b
   |.dict x=>match b with
    |.ref j=>match dictAt o j with
     |some y=>DU x y
     |.none=>.none
    |_=>.none
   |_=>.none
  |.none=>.none
 |.aD _ _=>A5 o a b
 |a=>q7 a b
noncomputable def pK(ks:G ar):G D->ar->aa (aa D):=@b9 ar (λ_=>G D->ar->aa (aa D)) (λB _=>match B with
  |[]=>some .none
  |_::_=>.none)
 (λk _ O B x=>match B with
  |[]=>.none
  |v::B=>match O B x with
   |some r=>@bN (λ_=>aa (aa D)) (some r) (some (some v)) (seq k x)
   |.none=>.none) ks
noncomputable def Af(ks:G ar)(B:G D)(x:D):aa (aa D):=match x with
 |.str x=>pK ks B x
 |_=>.none
noncomputable def dictGet(v x:D):aa (aa D):=match v with
 |.ref i=>match dictAt o i with
  |some R=>ih R x
  |.none=>.none
 |.aD k B=>match k with
  |.dict ks=>Af ks B x
  |_=>.none
 |_=>.none
noncomputable def cJ{α:Type}(E:aa α):ah:=match E with
 |some _=>true
 |.none=>false
noncomputable def AP(v b:D):aa ah:=match itemsOf o b with
 |some B=>Bb v B
 |.none=>match dictGet o b v with
  |some q=>some (cJ q)
  |.none=>.none
noncomputable def yi(E:aa ah):aa ah:=match E with
 |some b=>some (!b)
 |.none=>.none
noncomputable def zV(f:ba->ba->ah)(g:H->aa ah)(a b:D):aa ah:=match a with
 |.int x=>match b with
  |.int y=>some (f x y)
  |_=>.none
 |.fuel k=>match b with
  |.int y=>match eqZ y 0 with
   |true=>g k
   |false=>.none
  |_=>.none
 |_=>.none
noncomputable def zW(op:CmpOp)(a b:D):aa ah:=match op with
 |.Is=>match b with
  |.none=>isNone a
  |_=>.none
 |.IsNot=>match b with
  |.none=>yi (isNone a)
  |_=>.none
 |.Eq=>uE o a b
 |.NotEq=>yi (uE o a b)
 |.In=>AP o a b
 |.NotIn=>yi (AP o a b)
 |.Lt=>cmpInt (λx y=>ltZ x y) a b
 |.LtE=>cmpInt (λx y=>!(ltZ y x)) a b
 |.Gt=>zV (λx y=>ltZ y x) (λk=>match k with|0=>.none|_+1=>some true) a b
 |.GtE=>zV (λx y=>!(ltZ x y)) (λ_=>some true) a b
noncomputable def small(a:ba):ah:=ltZ a 4611686018427387904&&ltZ (-4611686018427387904) a
noncomputable def rep(B:G D)(n:H):G D:=@nZ (λ_=>G D) [] (λ_ O=>app B O) n
noncomputable def N0(B:G H):f_:=match jG B with
 |true=>.val (.str ⟨⟨B⟩⟩)
 |false=>.bad
noncomputable def N1(B:G D):f_:=match jG B with
 |true=>.val (.tup B)
 |false=>.bad
noncomputable def uo(a b:D):f_:=match a with
 |.str x=>match b with
  |.str y=>N0 (app x.1.1 y.1.1)
  |_=>.bad
 |.tup x=>match b with
  |.tup y=>N1 (app x y)
  |_=>.bad
 |.int x=>match b with
  |.int y=>.val (.int (x+y))
  |_=>.bad
 |_=>match eV o a with
  |some p=>match eV o b with
   |some q=>.new (.list (p.1+q.1) (app q.2 p.2))
   |.none=>.bad
  |.none=>.bad
noncomputable def Gh(a b:D):f_:=match b with
 |.int y=>match eV o a with
  |some p=>match y with
   |.ofNat n=>match eB n 100 with
    |true=>.new (.list (p.1*n) (rep p.2 n))
    |false=>.bad
   |_=>.bad
  |.none=>match a with
   |.int x=>match eqZ y 48271 with
    |true=>.val (.int (x*48271))
    |false=>.bad
   |_=>.bad
 |_=>.bad
noncomputable def Gg(x y:ba):f_:=match ltZ 0 y with
 |true=>.val (.int (o9 x y))
 |false=>.bad
noncomputable def DX(x y:ba):f_:=match ltZ 0 y&&ltZ y 1000 with
 |true=>.val (.int (I8 x y))
 |false=>.bad
noncomputable def He(x y:ba):f_:=match eqZ x 10&&eqZ y 18 with
 |true=>.val (.int 1000000000000000000)
 |false=>.bad
noncomputable def intOp(f:ba->ba->f_)(a b:D):f_:=match a with
 |.int x=>match b with
  |.int y=>f x y
  |_=>.bad
 |_=>.bad
noncomputable def O0(a b:D):f_:=match a with
 |.int x=>match b with
  |.int y=>.val (.int (x-y))
  |_=>.bad
 |.fuel k=>match b with
  |.int y=>match eqZ y 1 with
   |true=>match k with
    |0=>.bad
    |k+1=>.val (.fuel k)
   |false=>.bad
  |_=>.bad
 |_=>.bad
noncomputable def binOp(op:Operator)(a b:D):f_:=match op with
 |.Add=>uo o a b
 |.Sub=>O0 a b
 |.Mult=>Gh o a b
 |.Mod=>intOp Gg a b
 |.FloorDiv=>intOp DX a b
 |.Pow=>intOp He a b
 |_=>.bad
noncomputable def Pu(op:UnaryOp)(a:D):aa D:=match op with
 |.Not=>match a with
  |.bool b=>some (.bool (!b))
  |_=>.none
 |.USub=>match a with
  |.int x=>some (.int (-x))
  |_=>.none
 |_=>.none
noncomputable def AL(B:G D)(i:ba):aa D:=match i with
 |.ofNat k=>fJ B k
 |.negSucc k=>match dB k B.length with
  |true=>fJ B (B.length-(k+1))
  |false=>.none
noncomputable def HR(E i:D):aa D:=match itemsOf o E with
 |some B=>match i with
  |.int k=>match small k with
   |true=>AL B k
   |false=>.none
  |_=>.none
 |.none=>kN (dictGet o E i)
noncomputable def vQ(B:G D)(lo up st:D):aa (G D):=match st with
 |.none=>match lo with
  |.none=>match up with
   |.int u=>match u with
    |.ofNat k=>some (B.take k)
    |.negSucc k=>match bA k 0 with
     |true=>some B.dropLast
     |false=>.none
   |_=>.none
  |.int u=>match u with
   |.ofNat k=>match up with
    |.none=>some (B.drop k)
    |_=>.none
   |_=>.none
  |_=>.none
 |.int s=>match eqZ s (-1) with
  |true=>match lo with
   |.none=>match up with
    |.none=>some B.reverse
    |.int u=>match eqZ u 0 with
     |true=>some (B.drop 1).reverse
     |false=>.none
    |_=>.none
   |_=>.none
  |false=>.none
 |_=>.none
noncomputable def HD(v B u s:D):f_:=match eV o v with
 |some p=>match vQ (rv p.2) B u s with
  |some ys=>.new (.list p.1 (rv ys))
  |.none=>.bad
 |.none=>.bad
noncomputable def attrsOf(v:D):aa (H×H×G (D×D)):=match v with
 |.ref i=>match AR o i with
  |some q=>match dictAt o q.2 with
   |some R=>some (q.1,q.2,R)
   |.none=>.none
  |.none=>.none
 |_=>.none
noncomputable def ownAt(v:D)(x:ar):aa (H×aa D):=match v with
 |.aD k B=>match k with
  |.inst aq ks=>match pK ks B x with
   |some r=>some (aq,r)
   |.none=>.none
  |_=>.none
 |_=>match attrsOf o v with
  |some q=>match ih q.2.2 (.str x) with
   |some r=>some (q.1,r)
   |.none=>.none
  |.none=>.none
noncomputable def handed(m:D):aa D:=match m with
 |.bi _=>.none
 |.any=>.none
 |m=>some m
noncomputable def Gf(x:ar)(B:G ar):ah:=@b9 ar (λ_=>ah) false (λa _ O=>@bN (λ_=>ah) O true (seq a x)) B
noncomputable def Bc(W:bQ)(aq:H)(x:ar):ah:=match W.cls aq with
 |some ms=>Gf x ms.2
 |.none=>false
noncomputable def EA(W:bQ)(v:D)(x:ar):aa D:=match ownAt o v x with
 |some q=>match q.2 with
  |some m=>match Bc W q.1 x with
   |true=>handed m
   |false=>.none
  |.none=>.none
 |.none=>.none
noncomputable def A7(W:bQ)(v:D)(x:ar):aa H:=match ownAt o v x with
 |some q=>match q.2 with
  |some _=>.none
  |.none=>match W.cls q.1 with
   |some ms=>g_ ms.1 x
   |.none=>.none
 |.none=>.none
set_option genCtorIdx true in
inductive Me where
 |append|extend|A4|ih|xi|join|split
noncomputable def acv(x:ar):aa Me:=g_ [(acX,Me.append),(acY,.extend),(s_pop,.A4)] x
noncomputable def acs(x:ar):aa Me:=g_ [(Hu,Me.ih),(s_pop,.xi)] x
noncomputable def acw(x:ar):aa Me:=g_ [(acZ,Me.join),(s_split,.split)] x
noncomputable def acu(x:ar):aa Me:=g_ [(Hu,Me.ih)] x
noncomputable def Hl(v:D)(x:ar):aa Me:=match v with
 |.ref i=>match o.t.get i with
  |some E=>match E with
   |.list _ _=>acv x
   |.dict _=>acs x
   |_=>.none
  |.none=>.none
 |.aD k _=>match k with
  |.dict _=>acu x
  |_=>.none
 |.str _=>acw x
 |_=>.none
noncomputable def sU(j7:G H)(B:G D):aa (G H):=@b9 D (λ_=>aa (G H)) (some [])
 (λa r O=>match a with
  |.str s=>match r with
   |[]=>some s.1.1
   |_::_=>match O with
    |some t=>some (app s.1.1 (app j7 t))
    |.none=>.none
  |_=>.none) B
noncomputable def BB:ar:=⟨⟨[84,46,49]⟩⟩
noncomputable def BA:ar:=⟨⟨[78,46,50]⟩⟩
inductive t_ where
 |val (v:D)|put (v:D) (E:cL)|new (E:cL)|bad
noncomputable def FR(i b:H)(r:G D)(x:Me)(args:G D):t_:=match x with
 |.append=>match args with
  |[a]=>.put .none (.list (cX b) (a::r))
  |_=>.bad
 |.extend=>match args with
  |[a]=>match a with
   |.ref j=>match bA i j with
    |true=>.bad
    |false=>match eV o a with
     |some q=>.put .none (.list (b+q.1) (app q.2 r))
     |.none=>.bad
   |.aD _ _=>match eV o a with
    |some q=>.put .none (.list (b+q.1) (app q.2 r))
    |.none=>.bad
   |_=>.bad
  |_=>.bad
 |.A4=>match args with
  |[]=>match r with
   |a::r=>.put a (.list (wJ b) r)
   |[]=>.bad
  |_=>.bad
 |_=>.bad
noncomputable def KQ(R:G (D×D))(x:Me)(args:G D):t_:=match args with
 |[k,d]=>match ih R k with
  |some q=>match x with
   |.ih=>match q with
    |some u=>.val u
    |.none=>.val d
   |.xi=>match q with
    |some u=>.put u (.dict (se R k))
    |.none=>.val d
   |_=>.bad
  |.none=>.bad
 |_=>.bad
noncomputable def LI(k:FK)(B:G D)(x:Me)(args:G D):t_:=match k with
 |.dict ks=>match x with
  |.ih=>match args with
   |[a,d]=>match Af ks B a with
    |some q=>match q with
     |some u=>.val u
     |.none=>.val d
    |.none=>.bad
   |_=>.bad
  |_=>.bad
 |_=>.bad
noncomputable def OW(s:ar)(x:Me)(args:G D):t_:=match args with
 |[a]=>match x with
  |.join=>match eV o a with
   |some p=>match eB p.1 2000&&jG s.1.1 with
    |true=>match sU s.1.1 (rv p.2) with
     |some t=>match jG t with
      |true=>.val (.str ⟨⟨t⟩⟩)
      |false=>.bad
     |.none=>.bad
    |false=>.bad
   |.none=>.bad
  |.split=>match a with
   |.str b=>match vj b.1.1 [33]&&(seq s BB||seq s BA) with
    |true=>.new (.list 1 [.str s])
    |false=>.bad
   |_=>.bad
  |_=>.bad
 |_=>.bad
noncomputable def ye(v:D)(x:Me)(args:G D):t_:=match v with
 |.ref i=>match o.t.get i with
  |some E=>match E with
   |.list b r=>FR o i b r x args
   |.dict R=>KQ R x args
   |_=>.bad
  |.none=>.bad
 |.aD k B=>LI k B x args
 |.str s=>OW o s x args
 |_=>.bad
noncomputable def digits(f:H):H->G H:=@nZ (λ_=>H->G H) (λ_=>[]) (λ_ O n=>match dB n 10 with
  |true=>[48+n]
  |false=>app (O (rR n 10)) [48+uf n 10]) f
noncomputable def strLt(x:G H):G H->ah:=@b9 H (λ_=>G H->ah) (λy=>@b9 H (λ_=>ah) false (λ_ _ _=>true) y)
  (λa _ O y=>@b9 H (λ_=>ah) false (λb t _=>@bN (λ_=>ah) (dB a b) (O t) (bA a b)) y) x
noncomputable def uZ(k:G H)(v:D)(B:G (G H×D)):G (G H×D):=@b9 (G H×D) (λ_=>G (G H×D)) [(k,v)]
 (λp r O=>@bN (λ_=>G (G H×D)) (p::O) ((k,v)::p::r) (strLt k p.1)) B
noncomputable def oU(B:G (G H×D)):G (G H×D)->G (G H×D):=@b9 (G H×D) (λ_=>G (G H×D)->G (G H×D)) (λb_=>b_) (λp _ O b_=>O (uZ p.1 p.2 b_)) B
noncomputable def DF(B:G (G H×D)):ah:=@b9 (G H×D) (λ_=>ah) true (λp r O=>match r with
  |[]=>true
  |q::_=>strLt p.1 q.1&&O) B
noncomputable def tF(B:G (G H×D)):aa (G D):=match DF B&&dB B.length 64 with
 |true=>some (B.map (·.2))
 |false=>.none
noncomputable def strKeys(B:G D):aa (G (G H×D)):=@b9 D (λ_=>aa (G (G H×D))) (some [])
 (λa _ O=>match a with
  |.str s=>match O with
   |some r=>some ((s.1.1,a)::r)
   |.none=>.none
  |_=>.none) B
noncomputable def intsOf(B:G D):aa (G ba):=@b9 D (λ_=>aa (G ba)) (some [])
 (λa _ O=>match a with
  |.int i=>match O with
   |some r=>some (i::r)
   |.none=>.none
  |_=>.none) B
noncomputable def ZP(B:G ba):aa ba:=match B with
 |[]=>.none
 |a::r=>some (@b9 ba (λ_=>ba->ba) (λm=>m) (λx _ O m=>O (match ltZ m x with|true=>x|false=>m)) r a)
noncomputable def HS(B:G ba):ba:=@b9 ba (λ_=>ba->ba) (λm=>m) (λx _ O m=>O (m+x)) B 0
noncomputable def nK(B:G D):G (D×D)->aa (G (D×D)):=@b9 D (λ_=>G (D×D)->aa (G (D×D))) (λR=>some R)
 (λa _ O R=>match a with
  |.tup q=>match q with
   |[k,v]=>match dput R k v with
    |some R=>O R
    |.none=>.none
   |_=>.none
  |_=>.none) B
noncomputable def M0(n:H):f_:=.val (.int (.ofNat n))
noncomputable def OI(b:H)(E:aa (G (G H×D))):f_:=match E with
 |some ks=>match tF (oU ks []) with
  |some B=>.new (.list b (rv B))
  |.none=>.bad
 |.none=>.bad
noncomputable def Dq(a:D):f_:=match BG o a with
 |some p=>.new (.list p.1 p.2)
 |.none=>.bad
noncomputable def Dv(a:D):f_:=match itemsOf o a with
 |some B=>.val (.tup B)
 |.none=>.bad
noncomputable def Dn(a:D):f_:=match a with
 |.ref i=>match o.t.get i with
  |some E=>match E with
   |.dict R=>.new (.dict R)
   |.list _ r=>match nK (rv r) [] with
    |some R=>.new (.dict R)
    |.none=>.bad
   |_=>.bad
  |.none=>.bad
 |.aD k B=>match k with
  |.list _=>match nK B [] with
   |some R=>.new (.dict R)
   |.none=>.bad
  |_=>.bad
 |_=>.bad
noncomputable def Dt(a:D):f_:=match a with
 |.int n=>match n with
  |.ofNat n=>match dB n 10000000000 with
   |true=>.val (.str ⟨⟨digits 11 n⟩⟩)
   |false=>.bad
  |_=>.bad
 |_=>.bad
noncomputable def Ka(a:D):f_:=match a with
 |.int n=>.val (.int n)
 |_=>.bad
noncomputable def FQ(b:ah)(n:H):f_:=match b with
 |true=>M0 n
 |false=>.bad
noncomputable def Dp(a:D):f_:=match itemsOf o a with
 |some B=>FQ (jG B) B.length
 |.none=>match a with
  |.ref i=>match dictAt o i with
   |some B=>M0 B.length
   |.none=>.bad
  |.aD k _=>match k with
   |.dict ks=>FQ (jG ks) ks.length
   |_=>.bad
  |_=>.bad
noncomputable def Dr(a:D):f_:=match eV o a with
 |some p=>match intsOf (rv p.2) with
  |some B=>match ZP B with
   |some m=>.val (.int m)
   |.none=>.bad
  |.none=>.bad
 |.none=>.bad
noncomputable def Du(a:D):f_:=match eV o a with
 |some p=>match intsOf (rv p.2) with
  |some B=>.val (.int (HS B))
  |.none=>.bad
 |.none=>.bad
noncomputable def Ds(a:D):f_:=match a with
 |.ref i=>match dictAt o i with
  |some R=>OI R.length (strKeys (R.map (·.1)))
  |.none=>.bad
 |_=>.bad
noncomputable def SS(f:Bi)(a:D):f_:=match f with
 |.list=>Dq o a
 |.tuple=>Dv o a
 |.dict=>Dn o a
 |.str=>Dt a
 |.int=>Ka a
 |.len=>Dp o a
 |.max=>Dr o a
 |.sum=>Du o a
 |.sorted=>Ds o a
 |.min=>.bad
 |.range=>.bad
 |.zip=>.bad
noncomputable def Kb(f:Bi)(a b:D):f_:=match f with
 |.min=>match a with
  |.int x=>match b with
   |.int y=>.val (.int (match ltZ y x with|true=>y|false=>x))
   |_=>.bad
  |_=>.bad
 |_=>.bad
noncomputable def Kc(f:Bi)(args:G D):f_:=match args with
 |[]=>.bad
 |a::r=>match r with
  |[]=>SS o f a
  |b::r=>match r with
   |[]=>Kb f a b
   |_::_=>.bad
noncomputable def uC(ks:G D):G D->G (D×D)->aa (G (D×D)):=@b9 D (λ_=>G D->G (D×D)->aa (G (D×D)))
 (λV R=>match V with
  |[]=>some R
  |_::_=>.none)
 (λk _ O V R=>match V with
  |[]=>.none
  |v::V=>match dput R k v with
   |some R=>O V R
   |.none=>.none) ks
noncomputable def Hi(W:bQ)(ov v:D)(x:ar):aa (H×cL):=match attrsOf o ov with
 |some q=>match Bc W q.1 x with
  |true=>match dput q.2.2 (.str x) v with
   |some R=>some (q.2.1,.dict R)
   |.none=>.none
  |false=>.none
 |.none=>.none
noncomputable def putItem(ov i v:D):aa (H×cL):=match ov with
 |.ref j=>match o.t.get j with
  |some E=>match E with
   |.dict R=>match dput R i v with
    |some R=>some (j,.dict R)
    |.none=>.none
   |.list b r=>match i with
    |.int z=>match z with
     |.ofNat n=>match dB n r.length with
      |true=>some (j,.list b (rv ((rv r).set n v)))
      |false=>.none
     |_=>.none
    |_=>.none
   |_=>.none
  |.none=>.none
 |_=>.none
end ops
inductive VE where
 |const (I:Const)|name (x:ar)|nc (fI:ah) (e:aX) (R:G aX)|un (op:UnaryOp) (a:aX)|bin (a:aX) (op:Operator) (b:aX)|cmp (a:aX) (op:CmpOp) (b:aX)
 |qW (t a b:aX)|tup (R:G aX)|list (R:G aX)|dict (ks:G (aa aX)) (V:G aX)|attr (E:aX) (x:ar)|item (E i:aX)|slice (E:aX) (lo up st:aa aX)
 |comp (cQ t i:aX) (di:G aX) (gs:G rE) (cB:G (ar×dc))|call (f:aX) (args:G aX)|yc (E:aX) (x:ar) (args:G aX)|HG (f a kf:aX)|bad
noncomputable def gG(B:G aX):ah:=@b9 aX (λ_=>ah) true (λe _ O=>match e with
 |.Starred _ _=>false
 |_=>O) B
noncomputable def tf(E:aX):ah:=match E with
 |.Call f args _ _=>match args with
  |[]=>match f with
   |.Name _ _=>false
   |_=>true
  |_::_=>true
 |_=>true
noncomputable def uM(sc:Scope):ah:=match sc.kind with
 |.function=>true
 |_=>false
noncomputable def mE(e:aX):ah:=match e with
 |.Set _ _ _=>false
 |_=>true
noncomputable def wR(B:G (aa aX)):ah:=@b9 (aa aX) (λ_=>ah) true (λa _ O=>cJ a&&O) B
noncomputable def oP(b:ah)(v:VE):VE:=@bN (λ_=>VE) .bad v b
noncomputable def view(e:aX):VE:=match e with
 |.Constant I _ _=>.const I
 |.Name x _=>oP (!(seq x tC)) (.name x)
 |.BoolOp op V _=>match V with
  |[]=>.bad
  |e::R=>match op with
   |.And=>.nc true e R
   |.Or=>.nc false e R
 |.UnaryOp op a _=>.un op a
 |.BinOp a op b _=>.bin a op b
 |.Compare a ops bs _=>match ops with
  |[op]=>match bs with
   |[b]=>match b with
    |.Set _ _ _=>.bad
    |b=>.cmp a op b
   |_=>.bad
  |_=>.bad
 |.IfExp t a b _=>.qW t a b
 |.Tuple R _ _=>oP (gG R) (.tup R)
 |.List R _=>oP (gG R) (.list R)
 |.Dict ks V _=>oP (dB ks.length 16&&wR ks&&bA ks.length V.length) (.dict ks V)
 |.Attribute E x _=>oP (tf E) (.attr E x)
 |.Subscript E i _=>match i with
  |.Slice lo up st _=>.slice E lo up st
  |i=>.item E i
 |.ListComp cQ gs sc _=>match gs with
  |[]=>.bad
  |g::gs=>match g with
   |⟨t,i,di,a⟩=>match eqZ a 0 with
    |true=>oP (uM sc&&mE i) (.comp cQ t i di gs sc.names)
    |false=>.bad
 |.Call f args kw p=>oP (gG args) (match kw with
  |[]=>match f with
   |.Attribute E x q=>oP (tf E&&bA q.endLine p.line&&dB args.length 29) (.yc E x args)
   |.Name _ _=>.call f args
   |_=>.bad
  |kw::r=>match r with
   |[]=>match kw with
    |⟨some x,kf,_⟩=>match seq x vO with
     |true=>match args with
      |[a]=>match f with
       |.Name _ _=>.HG f a kf
       |_=>.bad
      |_=>.bad
     |false=>.bad
    |_=>.bad
   |_::_=>.bad)
 |_=>.bad
inductive VI where
 |one (x:ar) (f a:aX)|two (x:ar) (f a b:aX)|other
noncomputable def PG(x:ar)(f:aX)(args:G aX):VI:=match args with
 |[a]=>match gG [a] with
  |true=>.one x f a
  |false=>.other
 |[a,b]=>match gG [a,b] with
  |true=>.two x f a b
  |false=>.other
 |_=>.other
noncomputable def B6(e:aX):VI:=match e with
 |.Call f args kw _=>match kw with
  |[]=>match f with
   |.Name x _=>match seq x tC with
    |true=>.other
    |false=>PG x f args
   |_=>.other
  |_=>.other
 |_=>.other
inductive VB where
 |nc (fI:ah) (R:G aX)|not (a:aX)|cmp (a:aX) (op:CmpOp) (b:aX)|plain|bad
noncomputable def Iv(e:aX):VB:=match e with
 |.BoolOp op V _=>match op with
  |.And=>.nc true V
  |.Or=>.nc false V
 |.UnaryOp op a _=>match op with
  |.Not=>.not a
  |_=>.bad
 |.Compare a ops bs _=>match ops with
  |[op]=>match bs with
   |[b]=>match b with
    |.Set _ _ _=>.bad
    |b=>.cmp a op b
   |_=>.bad
  |_=>.bad
 |.IfExp _ _ _ _=>.bad
 |_=>.plain
noncomputable def s8(e:aX):ah:=match e with
 |.ListComp _ _ _ _=>false
 |.SetComp _ _ _ _=>false
 |.DictComp _ _ _ _ _=>false
 |_=>true
noncomputable def Gw(e:aX):ah:=match e with
 |.Call _ _ _ _=>true
 |.List _ _=>true
 |.Attribute _ _ _=>true
 |.Dict _ _ _=>true
 |.BoolOp _ _ _=>true
 |.IfExp _ _ _ _=>true
 |.Compare _ _ _ _=>true
 |.ListComp _ _ _ _=>true
 |_=>false
noncomputable def aga(B:G aX):ah:=@b9 aX (λ_=>ah) false (λe _ O=>Gw e||O) B
noncomputable def Bk(t e:aX):ah:=match t with
 |.Tuple _ _ _=>match e with
  |.Tuple V _ _=>V.any Gw||V.all (LH 8)
  |_=>true
 |_=>true
noncomputable def Bl(t:aX):ah:=match t with
 |.Name _ _=>true
 |.Tuple _ _ _=>true
 |.Attribute _ _ _=>true
 |.Subscript _ i _=>match i with
  |.Slice _ _ _ _=>false
  |_=>true
 |_=>false
inductive VS where
 |expr (e:aX)|ret (e:aX)|asg (t e:aX)|wW (t cQ tt i:aX) (di:G aX) (gs:G rE) (cB:G (ar×dc))|qW (t:aX) (a b:G en)|iO (t:aX) (b:G en)|for (t i:aX) (b:G en)|bad
noncomputable def Bm(b:ah)(v:VS):VS:=@bN (λ_=>VS) .bad v b
noncomputable def Iw(s:en):VS:=match s with
 |.Expr e _=>Bm (s8 e) (.expr e)
 |.Return e _=>match e with
  |some e=>.ret e
  |.none=>.bad
 |.Assign ts e _=>match ts with
  |[t]=>match e with
   |.ListComp _ _ _ _=>match t with
    |.Name _ _=>match view e with
     |.comp cQ tt i di gs cB=>.wW t cQ tt i di gs cB
     |_=>.bad
    |_=>.bad
   |e=>Bm (s8 e&&Bl t&&Bk t e) (.asg t e)
  |_=>.bad
 |.If t a b _=>.qW t a b
 |.While t b E _=>match E with
  |[]=>.iO t b
  |_=>.bad
 |.For t i b E _=>match E with
  |[]=>Bm (mE i) (.for t i b)
  |_=>.bad
 |_=>.bad
universe u
structure cU(ag:Sort u) where
 fail:ag
 all:H->(H->ag)->ag
noncomputable def cU.opt{α:Type}(Z:cU ag)(E:aa α)(k:α->ag):ag:=@CQ α (λ_=>ag) Z.fail k E
structure Ops(ag:Sort u) where
 ev:Cx->aX->Fm->MH->(D->MH->ag)->ag
 fh:Cx->aX->Fm->MH->(ah->MH->ag)->ag
 ex:Cx->en->Fm->MH->(eh->Fm->MH->ag)->ag
 call:D->G D->MH->(D->MH->ag)->ag
 iO:Cx->aX->G en->Fm->MH->(eh->Fm->MH->ag)->ag
 forL:Cx->aX->It->G en->Fm->MH->(eh->Fm->MH->ag)->ag
 cmp:Cx->aX->aX->G aX->G rE->It->G D->Fm->MH->(G D->Fm->MH->ag)->ag
 lvl:H
section
variable{ag:Sort u}(Z:cU ag)(W:bQ)(O:Ops ag)
noncomputable def Lv:Ops ag:=⟨λ_ _ _ _ _=>Z.fail,λ_ _ _ _ _=>Z.fail,λ_ _ _ _ _=>Z.fail,λ_ _ _ _=>Z.fail,λ_ _ _ _ _ _=>Z.fail,λ_ _ _ _ _ _ _=>Z.fail,λ_ _ _ _ _ _ _ _ _ _=>Z.fail,0⟩
noncomputable def iB(E:cL):ah:=match E with
 |.list b _=>eB b 4096
 |.dict B=>jG B
 |.inst _ _=>true
 |.dj=>true
noncomputable def iV(o:MH)(E:cL)(k:D->MH->ag):ag:=@bN (λ_=>ag) Z.fail (k (.ref o.n) ⟨o.t.ins o.n E,cX o.n⟩) (iB E&&cJ ((o.t.ins o.n E).get o.n))
noncomputable def nN(o:MH)(i:H)(E:cL)(k:MH->ag):ag:=@bN (λ_=>ag) Z.fail (k ⟨o.t.set i E,o.n⟩) (iB E)
noncomputable def answer(r:f_)(o:MH)(k:D->MH->ag):ag:=match r with
 |.val v=>k v o
 |.new E=>iV Z o E k
 |.bad=>Z.fail
noncomputable def Dg(r:t_)(v:D)(o:MH)(k:D->MH->ag):ag:=match r with
 |.val u=>k u o
 |.put u E=>match v with
  |.ref i=>nN Z o i E λo=>k u o
  |_=>Z.fail
 |.new E=>iV Z o E k
 |.bad=>Z.fail
noncomputable def zM(v:D)(k:ah->ag):ag:=match v with
 |.bool b=>k b
 |_=>Z.fail
noncomputable def sy(cx:Cx)(B:G aX):Fm->MH->(G D->MH->ag)->ag:=@b9 aX (λ_=>Fm->MH->(G D->MH->ag)->ag) (λ_ o k=>k [] o)
 (λe _ r fr o k=>O.ev cx e fr o λv o=>r fr o λV o=>k (v::V) o) B
noncomputable def iy(cx:Cx)(B:G en):Fm->MH->(eh->Fm->MH->ag)->ag:=@b9 en (λ_=>Fm->MH->(eh->Fm->MH->ag)->ag) (λfr o k=>k .next fr o)
 (λs _ r fr o k=>O.ex cx s fr o λf fr o=>@eh.rec (λ_=>ag) (r fr o k) (λv=>k (.ret v) fr o) f) B
noncomputable def Dy(fI:ah)(cx:Cx)(B:G aX):aX->Fm->MH->(D->MH->ag)->ag:=@b9 aX (λ_=>aX->Fm->MH->(D->MH->ag)->ag) (λe fr o k=>O.ev cx e fr o k)
 (λe' _ r e fr o k=>O.ev cx e fr o λv o=>zM Z v λb=>@bN (λ_=>ag) (r e' fr o k) (k v o) (qt fI b)) B
noncomputable def v8(fI:ah)(cx:Cx)(B:G aX):Fm->MH->(ah->MH->ag)->ag:=@b9 aX (λ_=>Fm->MH->(ah->MH->ag)->ag) (λ_ o k=>k fI o)
 (λe _ r fr o k=>O.fh cx e fr o λb o=>@bN (λ_=>ag) (r fr o k) (k b o) (qt fI b)) B
noncomputable def Eh(cx:Cx)(ks:G (aa aX)):G aX->Fm->MH->(G D->G D->MH->ag)->ag:=@b9 (aa aX) (λ_=>G aX->Fm->MH->(G D->G D->MH->ag)->ag)
 (λV _ o k=>match V with
  |[]=>k [] [] o
  |_::_=>Z.fail)
 (λa _ r V fr o k=>match V with
  |[]=>Z.fail
  |v::V=>match a with
   |some a=>O.ev cx a fr o λkv o=>O.ev cx v fr o λvv o=>r V fr o λa b o=>k (kv::a) (vv::b) o
   |.none=>Z.fail) ks
noncomputable def qN(cx:Cx)(e:aX)(fr:Fm)(o:MH)(k:It->MH->ag):ag:=O.ev cx e fr o λv o=>Z.opt (pV o v) λit=>k it o
noncomputable def Vj(cx:Cx)(a:aX)(fr:Fm)(o:MH)(k:It->MH->ag):ag:=O.ev cx a fr o λv o=>match v with
 |.int n=>@bN (λ_=>ag) Z.fail (k (.range 0 n) o) (small n)
 |_=>Z.fail
noncomputable def Vk(cx:Cx)(a b:aX)(fr:Fm)(o:MH)(k:It->MH->ag):ag:=O.ev cx a fr o λv o=>O.ev cx b fr o λu o=>Z.opt (pV o v) λx=>Z.opt (pV o u) λy=>k (.zip x y) o
noncomputable def uH(cx:Cx)(e:aX)(fr:Fm)(o:MH)(k:It->MH->ag):ag:=match B6 e with
 |.one x _ a=>match nameOf W cx fr x with
  |some v=>match v with
   |.bi b=>match b with
    |.range=>Vj Z O cx a fr o k
    |.zip=>Z.fail
    |_=>qN Z O cx e fr o k
   |_=>qN Z O cx e fr o k
  |.none=>qN Z O cx e fr o k
 |.two x _ a b=>match nameOf W cx fr x with
  |some v=>match v with
   |.bi I=>match I with
    |.zip=>Vk Z O cx a b fr o k
    |_=>qN Z O cx e fr o k
   |_=>qN Z O cx e fr o k
  |.none=>qN Z O cx e fr o k
 |.other=>qN Z O cx e fr o k
noncomputable def yD(f:D)(B:G D):MH->(G (G H×D)->MH->ag)->ag:=@b9 D (λ_=>MH->(G (G H×D)->MH->ag)->ag) (λo k=>k [] o)
 (λv _ r o k=>O.call f [v] o λu o=>match u with
  |.str s=>r o λB o=>k ((s.1.1,v)::B) o
  |_=>Z.fail) B
noncomputable def Bg(B:G H):ah:=@b9 H (λ_=>ah) true (λa _ O=>@bN (λ_=>ah) false O (dB a 1114112)) B
noncomputable def Lo(I:Const)(o:MH)(k:D->MH->ag):ag:=match I with
 |.none=>k .none o
 |.bool b=>k (.bool b) o
 |.int i=>k (.int i) o
 |.str s=>@bN (λ_=>ag) Z.fail (k (.str s) o) (Bg s.1.1)
 |_=>Z.fail
noncomputable def Ad(cx:Cx)(e:aa aX)(fr:Fm)(o:MH)(k:D->MH->ag):ag:=match e with
 |.none=>k .none o
 |some e=>O.ev cx e fr o k
noncomputable def GK(sc:G (ar×dc))(p:ar×dc):ah:=match p.2 with
 |.local=>true
 |.globalImplicit=>true
 |.free=>match idxOf sc p.1 0 with
  |some q=>match q.2 with
   |.cell=>true
   |_=>false
  |.none=>false
 |_=>false
noncomputable def tg(sc cB:G (ar×dc)):ah:=@b9 (ar×dc) (λ_=>ah) true (λp r O=>GK sc p&&!(cJ (g_ r p.1))&&O) cB
noncomputable def uG(cx:Cx)(cQ t i:aX)(di:G aX)(gs:G rE)(cB:G (ar×dc))(fr:Fm)(o:MH)(k:D->MH->ag):ag:=match cx.comp with
 |.none=>@bN (λ_=>ag) Z.fail (uH Z W O cx i fr o λit o=>O.cmp ⟨cx.sc,some cB⟩ cQ t di gs it [] ⟨fr.vars,cB.map λ_=>.none⟩ o λB _ o=>iV Z o (.list B.length B) k) (tg cx.sc cB)
 |some _=>Z.fail
noncomputable def r9(v:D):ah:=match v with
 |.fn a=>match W.fn a with
  |some _=>true
  |.none=>match W.cls a with
   |some _=>true
   |.none=>false
 |.bi _=>true
 |_=>false
noncomputable def Nq(cx:Cx)(v:D)(x:ar)(args:G aX)(fr:Fm)(o:MH)(k:D->MH->ag):ag:=match A7 o W (yO W v) x with
 |some f=>@bN (λ_=>ag) Z.fail (sy O cx args fr o λV o=>O.call (.fn f) (v::V) o k) (r9 W (.fn f))
 |.none=>Z.opt (Hl o v x) λm=>sy O cx args fr o λV o=>Dg Z (ye o v m V) v o k
noncomputable def HE(u g:D)(o:MH)(k:D->MH->ag):ag:=match g with
 |.fn _=>match eV o u with
  |some p=>match dB p.2.length 64 with
   |true=>yD Z O g (rv p.2) o λks o=>Z.opt (tF (oU ks [])) λB=>iV Z o (.list p.1 (rv B)) k
   |false=>Z.fail
  |.none=>Z.fail
 |_=>Z.fail
noncomputable def adD(v u g:D)(o:MH)(k:D->MH->ag):ag:=match v with
 |.bi b=>match b with
  |.sorted=>HE Z O u g o k
  |_=>Z.fail
 |_=>Z.fail
noncomputable def xb(o:MH)(op:CmpOp)(a b:D):aa ah:=match op with
 |.Eq=>match W.eqv a b with
  |some r=>some r
  |.none=>zW o .Eq a b
 |.NotEq=>match W.eqv a b with
  |some r=>some (!r)
  |.none=>zW o .NotEq a b
 |op=>zW o op a b
noncomputable def K7(x:ar)(cx:Cx)(fr:Fm)(o:MH)(k:D->MH->ag):ag:=Z.opt (nameOf W cx fr x) λv=>k v o
noncomputable def La(op:UnaryOp)(a:aX)(cx:Cx)(fr:Fm)(o:MH)(k:D->MH->ag):ag:=O.ev cx a fr o λv o=>Z.opt (Pu op v) λu=>k u o
noncomputable def KZ(a:aX)(op:Operator)(b:aX)(cx:Cx)(fr:Fm)(o:MH)(k:D->MH->ag):ag:=O.ev cx a fr o λx o=>O.ev cx b fr o λy o=>answer Z (binOp o op x y) o k
noncomputable def K1(a:aX)(op:CmpOp)(b:aX)(cx:Cx)(fr:Fm)(o:MH)(k:D->MH->ag):ag:=O.ev cx a fr o λx o=>O.ev cx b fr o λy o=>Z.opt (xb W o op x y) λr=>k (.bool r) o
noncomputable def K3(t a b:aX)(cx:Cx)(fr:Fm)(o:MH)(k:D->MH->ag):ag:=O.fh cx t fr o λI o=>@bN (λ_=>ag) (O.ev cx b fr o k) (O.ev cx a fr o k) I
noncomputable def K_(R:G aX)(cx:Cx)(fr:Fm)(o:MH)(k:D->MH->ag):ag:=sy O cx R fr o λV o=>@bN (λ_=>ag) Z.fail (k (.tup V) o) (jG V)
noncomputable def K5(R:G aX)(cx:Cx)(fr:Fm)(o:MH)(k:D->MH->ag):ag:=sy O cx R fr o λV o=>iV Z o (.list V.length (rv V)) k
noncomputable def K2(ks:G (aa aX))(V:G aX)(cx:Cx)(fr:Fm)(o:MH)(k:D->MH->ag):ag:=Eh Z O cx ks V fr o λa b o=>Z.opt (uC a b []) λR=>iV Z o (.dict R) k
noncomputable def KY(E:aX)(x:ar)(cx:Cx)(fr:Fm)(o:MH)(k:D->MH->ag):ag:=O.ev cx E fr o λv o=>Z.opt (EA o W (yO W v) x) λu=>k u o
noncomputable def K4(E i:aX)(cx:Cx)(fr:Fm)(o:MH)(k:D->MH->ag):ag:=O.ev cx E fr o λv o=>O.ev cx i fr o λa o=>Z.opt (HR o v a) λu=>k u o
noncomputable def K8(E:aX)(lo up st:aa aX)(cx:Cx)(fr:Fm)(o:MH)(k:D->MH->ag):ag:=O.ev cx E fr o λv o=>Ad O cx lo fr o λB o=>Ad O cx up fr o λu o=>Ad O cx st fr o λs o=>answer Z (HD o v B u s) o k
noncomputable def K0(f:aX)(args:G aX)(cx:Cx)(fr:Fm)(o:MH)(k:D->MH->ag):ag:=O.ev cx f fr o λv o=>@bN (λ_=>ag) Z.fail (sy O cx args fr o λV o=>O.call v V o k) (r9 W v)
noncomputable def K6(E:aX)(x:ar)(args:G aX)(cx:Cx)(fr:Fm)(o:MH)(k:D->MH->ag):ag:=O.ev cx E fr o λv o=>Nq Z W O cx v x args fr o k
noncomputable def K9(f a kf:aX)(cx:Cx)(fr:Fm)(o:MH)(k:D->MH->ag):ag:=O.ev cx f fr o λv o=>@bN (λ_=>ag) Z.fail (O.ev cx a fr o λu o=>O.ev cx kf fr o λg o=>adD Z O v u g o k) (r9 W v)
noncomputable def Ei(cx:Cx)(e:aX)(fr:Fm)(o:MH)(k:D->MH->ag):ag:=@VE.rec (λ_=>ag)
 (λI=>Lo Z I o k) (λx=>K7 Z W x cx fr o k) (λfI e R=>Dy Z O fI cx R e fr o k) (λop a=>La Z O op a cx fr o k) (λa op b=>KZ Z O a op b cx fr o k) (λa op b=>K1 Z W O a op b cx fr o k)
 (λt a b=>K3 O t a b cx fr o k) (λR=>K_ Z O R cx fr o k) (λR=>K5 Z O R cx fr o k) (λks V=>K2 Z O ks V cx fr o k) (λE x=>KY Z W O E x cx fr o k) (λE i=>K4 Z O E i cx fr o k)
 (λE lo up st=>K8 Z O E lo up st cx fr o k) (λcQ t i di gs cB=>uG Z W O cx cQ t i di gs cB fr o k) (λf args=>K0 Z W O f args cx fr o k) (λE x args=>K6 Z W O E x args cx fr o k) (λf a kf=>K9 Z W O f a kf cx fr o k)
 Z.fail (view e)
noncomputable def Ig(cx:Cx)(e:aX)(fr:Fm)(o:MH)(k:ah->MH->ag):ag:=match Iv e with
 |.nc fI R=>v8 O fI cx R fr o k
 |.not a=>O.fh cx a fr o λb o=>k (!b) o
 |.cmp a op b=>O.ev cx a fr o λx o=>O.ev cx b fr o λy o=>Z.opt (xb W o op x y) λr=>k r o
 |.plain=>O.ev cx e fr o λv o=>zM Z v λb=>k b o
 |.bad=>Z.fail
noncomputable def asg(cx:Cx)(t:aX)(v:D)(fr:Fm)(o:MH)(k:Fm->MH->ag):ag:=match qo t with
 |.attr E x=>O.ev cx E fr o λov o=>Z.opt (Hi o W ov v x) λq=>nN Z o q.1 q.2 λo=>k fr o
 |.item E i=>O.ev cx E fr o λov o=>O.ev cx i fr o λa o=>Z.opt (putItem o ov a v) λq=>nN Z o q.1 q.2 λo=>k fr o
 |_=>Z.opt (pC W cx fr t v) λfr=>k fr o
noncomputable def Ek(cx:Cx)(s:en)(fr:Fm)(o:MH)(k:eh->Fm->MH->ag):ag:=match Iw s with
 |.expr e=>O.ev cx e fr o λ_ o=>k .next fr o
 |.ret e=>O.ev cx e fr o λv o=>k (.ret v) fr o
 |.asg t e=>O.ev cx e fr o λv o=>asg Z W O cx t v fr o λfr o=>k .next fr o
 |.wW t cQ tt i di gs cB=>uG Z W O cx cQ tt i di gs cB fr o λv o=>Z.opt (pC W cx fr t v) λfr=>k .next fr o
 |.qW t a b=>O.fh cx t fr o λI o=>@bN (λ_=>ag) (iy O cx b fr o k) (iy O cx a fr o k) I
 |.iO t b=>O.iO cx t b fr o k
 |.for t i b=>uH Z W O cx i fr o λit o=>O.forL cx t it b fr o k
 |.bad=>Z.fail
noncomputable def PQ(cx:Cx)(t:aX)(b:G en)(fr:Fm)(o:MH)(k:eh->Fm->MH->ag):ag:=O.fh cx t fr o λI o=>
 @bN (λ_=>ag) (k .next fr o) (iy O cx b fr o λf fr o=>@eh.rec (λ_=>ag) (O.iO cx t b fr o k) (λv=>k (.ret v) fr o) f) I
noncomputable def GJ(it:It)(t:aX):ah:=match it with
 |.zip _ _=>match t with
  |.Tuple _ _ _=>true
  |_=>false
 |_=>true
noncomputable def Et(cx:Cx)(t:aX)(it:It)(b:G en)(fr:Fm)(o:MH)(k:eh->Fm->MH->ag):ag:=match e_ o it with
 |some x=>match x with
  |some q=>@bN (λ_=>ag) Z.fail (Z.opt (pC W cx fr t q.1) λfr=>iy O cx b fr o λf fr o=>@eh.rec (λ_=>ag) (O.forL cx t q.2 b fr o k) (λv=>k (.ret v) fr o) f) (GJ it t)
  |.none=>k .next fr o
 |.none=>Z.fail
noncomputable def DJ(cx:Cx)(cQ:aX)(gs:G rE)(b_:G D)(fr:Fm)(o:MH)(k:G D->Fm->MH->ag):ag:=match gs with
 |[]=>O.ev cx cQ fr o λx o=>@bN (λ_=>ag) Z.fail (k (x::b_) fr o) (jG b_)
 |g::gs=>match g with
  |⟨t,i,di,a⟩=>match eqZ a 0&&mE i with
   |true=>uH Z W O cx i fr o λit o=>O.cmp cx cQ t di gs it b_ fr o k
   |false=>Z.fail
noncomputable def DK(cx:Cx)(cQ t:aX)(di:G aX)(gs:G rE)(it:It)(b_:G D)(fr:Fm)(o:MH)(k:G D->Fm->MH->ag):ag:=match e_ o it with
 |some x=>match x with
  |some q=>@bN (λ_=>ag) Z.fail (Z.opt (pC W cx fr t q.1) λfr=>v8 O true cx di fr o λok o=>
   @bN (λ_=>ag) (O.cmp cx cQ t di gs q.2 b_ fr o k) (DJ Z W O cx cQ gs b_ fr o λb_ fr o=>O.cmp cx cQ t di gs q.2 b_ fr o k) ok) (GJ it t)
  |.none=>k b_ fr o
 |.none=>Z.fail
noncomputable def tI(F:Fn)(args:G D):aa (G (aa D)):=match eB args.length F.hO&&eB (F.hO-args.length) F.jg.length with
 |true=>some (app ((app args (F.jg.drop (F.jg.length-(F.hO-args.length)))).map some) ((F.sc.drop F.hO).map λ_=>.none))
 |false=>.none
noncomputable def uw(F:Fn)(args:G D)(o:MH)(k:D->MH->ag):ag:=Z.opt (tI F args) λb=>iy O ⟨F.sc,.none⟩ F.body ⟨b,[]⟩ o λf _ o=>@eh.rec (λ_=>ag) (k .none o) (λv=>k v o) f
noncomputable def Kj(F:Fn)(args:G D)(o:MH)(k:D->MH->ag):ag:=match args with
 |[a,b]=>match a with
  |.ref j=>match o.t.get j with
   |some E=>match E with
    |.dj=>match b with
     |.int top=>match ltZ 0 top&&ltZ top 8&&eB 20 O.lvl with
      |true=>Z.all top.toNat λd=>k (.int (.ofNat d)) o
      |false=>Z.fail
     |_=>Z.fail
    |_=>uw Z O F args o k
   |.none=>Z.fail
  |_=>Z.fail
 |_=>Z.fail
noncomputable def made(k:D->MH->ag)(x u:D)(o:MH):ag:=match u with
 |.none=>k x o
 |_=>Z.fail
noncomputable def Gb(a:H)(F:Fn)(args:G D)(o:MH)(k:D->MH->ag):ag:=iV Z o (.dict []) λd Z1=>iV Z Z1 (.inst a o.n) λx Z2=>uw Z O F (x::args) Z2 λu br=>made Z k x u br
noncomputable def Ki(a:H)(args:G D)(o:MH)(k:D->MH->ag):ag:=match W.fn a with
 |some F=>match bA a W.pull with
  |true=>Kj Z O F args o k
  |false=>uw Z O F args o k
 |.none=>Z.opt (W.cls a) λms=>Z.opt (g_ ms.1 Hv) λi=>Z.opt (W.fn i) λF=>Gb Z O a F args o k
noncomputable def DB(f:D)(args:G D)(o:MH)(k:D->MH->ag):ag:=match f with
 |.fn a=>match W.gX a args o with
  |some p=>@bN (λ_=>ag) Z.fail (k p.2.1 p.2.2) (eB p.1 O.lvl)
  |.none=>Ki Z W O a args o k
 |.bi v=>answer Z (Kc o v args) o k
 |_=>Z.fail
noncomputable def Om(n:H):Ops ag:=⟨Ei Z W O,Ig Z W O,Ek Z W O,DB Z W O,PQ O,Et Z W O,DK Z W O,n⟩
end
noncomputable def run(Z:cU ag)(W:bQ)(n:H):Ops ag:=@nZ (λ_=>Ops ag) (Lv Z) (λn E=>Om Z W E (cX n)) n
theorem bz{P:Prop}(e:false=true):P:=nomatch e
theorem aB{α:Type _}{a:α}{P:Prop}(e:none=some a):P:=nomatch e
theorem ql{α:Type _}{a:α}{P:Prop}(e:some a=none):P:=nomatch e
theorem Ie{P:Prop}(e:true=false):P:=nomatch e
section
variable{p q r s:Prop}{az:Prop}
theorem D.Pm{a b:G D}(h:D.tup a=.tup b):a=b:=D.noConfusion h id
theorem D.str_inj{a b:ar}(h:D.str a=.str b):a=b:=D.noConfusion h id
theorem D.V5{k B:FK}{a b:G D}(h:D.aD k a=.aD B b):k=B/\a=b:=D.noConfusion h Cd
theorem FK.Ub{a b:G ar}(h:FK.dict a=.dict b):a=b:=FK.noConfusion h id
theorem X_{α:Type}{I:Prop} [Decidable I]{a b:α}{P:α->Prop}(h1:I->P a)(h2:¬I->P b):P (if I then a else b):=by
 by_cases q:I
 .rw [bT q];exact h1 q
 .rw [bk q];exact h2 q
theorem xA(h:p/\q)(k:p->q->az):az:=k h.1 h.2
theorem cf(h:p/\q/\r)(k:p->q->r->az):az:=k h.1 h.2.1 h.2.2
theorem eN(h:p/\q/\r/\s)(k:p->q->r->s->az):az:=k h.1 h.2.1 h.2.2.1 h.2.2.2
end
section
variable{α β γ:Sort _}{az:Prop}
section
variable{p q r s:α->Prop}
theorem ay(h:∃a,p a/\q a)(k:∀a,p a->q a->az):az:=h.elim λa z=>k a z.1 z.2
theorem fM(h:∃a,p a/\q a/\r a)(k:∀a,p a->q a->r a->az):az:=h.elim λa z=>k a z.1 z.2.1 z.2.2
theorem iZ(h:∃a,p a/\q a/\r a/\s a)(k:∀a,p a->q a->r a->s a->az):az:=h.elim λa z=>k a z.1 z.2.1 z.2.2.1 z.2.2.2
end
section
variable{p q r s:α->β->Prop}
theorem gK(h:∃a b,p a b)(k:∀a b,p a b->az):az:=h.elim λa z=>z.elim λb y=>k a b y
theorem jv(h:∃a b,p a b/\q a b)(k:∀a b,p a b->q a b->az):az:=h.elim λa z=>z.elim λb y=>k a b y.1 y.2
theorem eO(h:∃a b,p a b/\q a b/\r a b)(k:∀a b,p a b->q a b->r a b->az):az:=h.elim λa z=>z.elim λb y=>k a b y.1 y.2.1 y.2.2
theorem eK(h:∃a b,p a b/\q a b/\r a b/\s a b)(k:∀a b,p a b->q a b->r a b->s a b->az):az:=h.elim λa z=>z.elim λb y=>k a b y.1 y.2.1 y.2.2.1 y.2.2.2
end
section
variable{p q r s:α->β->γ->Prop}
theorem dO(h:∃a b I,p a b I/\q a b I)(k:∀a b I,p a b I->q a b I->az):az:=h.elim λa z=>z.elim λb y=>y.elim λI x=>k a b I x.1 x.2
end
end
namespace MT
theorem beq_eq(a b:H):bA a b=decide (a=b):=by
 by_cases h:a=b
 .subst h;simp [CH]
 .rw [jf h]
  cases q:bA a b with
  |false=>rfl
  |true=>exact bP (dU q) h
theorem get_nil(i:H):MT.nil.get i=none:=rfl
theorem Fu{α:Type}(x y z:α)(i:H):@bN (λ_=>α) (@bN (λ_=>α) x y (bA (uf i 2) 1)) z (bA i 0)=if i=0 then z else if i%2=1 then y else x:=by
 cases h:bA i 0 with
 |true=>rw [bT (dU h)]
 |false=>
  rw [bk (CL h)]
  cases q:bA (uf i 2) 1 with
  |true=>exact(bT (dU q)).symm
  |false=>exact(bk (CL q)).symm
theorem get_node(v:cL)(B r:MT)(i:H):(node v B r).get i=if i=0 then some v else if i%2=1 then B.get (i / 2) else r.get (i / 2-1):=Fu ..
theorem set_node(v:cL)(B r:MT)(i:H)(E:cL):(node v B r).set i E=if i=0 then node E B r else if i%2=1 then node v (B.set (i / 2) E) r else node v B (r.set (i / 2-1) E):=Fu ..
theorem ins_node(v:cL)(B r:MT)(i:H)(E:cL):(node v B r).ins i E=if i=0 then node E B r else if i%2=1 then node v (B.ins (i / 2) E) r else node v B (r.ins (i / 2-1) E):=Fu ..
theorem L7(p:i%2=1)(q:a%2=1)(h:i / 2=a / 2):i=a:=by rw [<-uc i 2,<-uc a 2,p,q,h]
theorem L6(hi:i≠0)(p:¬i%2=1)(ha:a≠0)(q:¬a%2=1)(h:i / 2-1=a / 2-1):i=a:=by
 have p:=Rj.mp p
 have q:=Rj.mp q
 have xG:i / 2≠0:=λz=>hi (by rw [<-uc i 2,z,p])
 have Wo:a / 2≠0:=λz=>ha (by rw [<-uc a 2,z,q])
 rw [<-uc i 2,<-uc a 2,p,q,show i / 2=a / 2 from(Rw xG).symm.trans ((cq cX h).trans (Rw Wo))]
theorem get_set(E:cL)(t:MT):∀a i:H,(t.set a E).get i=if i=a then(t.get a).map (λ_=>E) else t.get i:=by
 induction t with
 |nil=>exact λa i=>by show none=if i=a then none else none;split<;>rfl
 |node v B r hl hr=>
  intro a i
  rw [set_node,get_node v B r a,get_node v B r i]
  by_cases ha:a=0
  .rw [bT ha,bT ha,get_node,ha]
   by_cases hi:i=0
   .rw [bT hi,bT hi];rfl
   .rw [bk hi,bk hi,bk hi]
  .rw [bk ha,bk ha]
   by_cases pa:a%2=1
   .rw [bT pa,bT pa,get_node]
    by_cases hi:i=0
    .rw [bT hi,bT hi,bk (λ(z:i=a)=>ha (z▸hi))]
    .rw [bk hi,bk hi]
     by_cases pi:i%2=1
     .rw [bT pi,bT pi,hl]
      by_cases e:i=a
      .rw [bT (cq (· / 2) e),bT e]
      .rw [bk (λz=>e (L7 pi pa z)),bk e]
     .rw [bk pi,bk pi,bk (λ(z:i=a)=>pi (z▸pa))]
   .rw [bk pa,bk pa,get_node]
    by_cases hi:i=0
    .rw [bT hi,bT hi,bk (λ(z:i=a)=>ha (z▸hi))]
    .rw [bk hi,bk hi]
     by_cases pi:i%2=1
     .rw [bT pi,bT pi,bk (λ(z:i=a)=>pa (z▸pi))]
     .rw [bk pi,bk pi,hr]
      by_cases e:i=a
      .rw [bT (cq (· / 2-1) e),bT e]
      .rw [bk (λz=>e (L6 hi pi ha pa z)),bk e]
theorem get_ins(E:cL)(t:MT):∀a:H,((t.ins a E).get a).isSome=true->∀i,(t.ins a E).get i=if i=a then some E else t.get i:=by
 induction t with
 |nil=>
  intro a h i
  have e:(MT.nil.ins a E)=node E nil nil:=rfl
  rw [e,get_node] at h⊢
  by_cases ha:a=0
  .rw [ha]
   by_cases hi:i=0
   .rw [bT hi,bT hi]
   .rw [bk hi,bk hi];split<;>rfl
  .rw [bk ha] at h
   by_cases p:a%2=1
   .rw [bT p] at h;exact mQ (h:false=true)
   .rw [bk p] at h;exact mQ (h:false=true)
 |node v B r hl hr=>
  intro a h i
  rw [ins_node] at h⊢
  rw [get_node v B r i]
  by_cases ha:a=0
  .rw [bT ha,get_node,ha]
   by_cases hi:i=0
   .rw [bT hi,bT hi]
   .rw [bk hi,bk hi,bk hi]
  .rw [bk ha] at h⊢
   by_cases pa:a%2=1
   .rw [bT pa,get_node,bk ha,bT pa] at h
    rw [bT pa,get_node]
    by_cases hi:i=0
    .rw [bT hi,bT hi,bk (λ(z:i=a)=>ha (z▸hi))]
    .rw [bk hi,bk hi]
     by_cases pi:i%2=1
     .rw [bT pi,bT pi,hl _ h]
      by_cases e:i=a
      .rw [bT (cq (· / 2) e),bT e]
      .rw [bk (λz=>e (L7 pi pa z)),bk e]
     .rw [bk pi,bk pi,bk (λ(z:i=a)=>pi (z▸pa))]
   .rw [bk pa,get_node,bk ha,bk pa] at h
    rw [bk pa,get_node]
    by_cases hi:i=0
    .rw [bT hi,bT hi,bk (λ(z:i=a)=>ha (z▸hi))]
    .rw [bk hi,bk hi]
     by_cases pi:i%2=1
     .rw [bT pi,bT pi,bk (λ(z:i=a)=>pa (z▸pi))]
     .rw [bk pi,bk pi,hr _ h]
      by_cases e:i=a
      .rw [bT (cq (· / 2-1) e),bT e]
      .rw [bk (λz=>e (L6 hi pi ha pa z)),bk e]
end MT
theorem Yz{α:Type _}{a:α}{B:G α}{P:Prop}(h:[]=a::B):P:=nomatch h
theorem xY{α:Type _}{a:α}{B:G α}{P:Prop}(h:a::B=[]):P:=nomatch h
theorem mI{α β:Type}{E:aa α}{F:α->aa β}{q:β}(e:(match E with|some a=>F a|.none=>.none)=some q):∃a,E=some a/\F a=some q:=by
 cases E with
 |none=>nomatch e
 |some a=>exact⟨a,rfl,e⟩
theorem bI(e:(match b with|true=>x|false=>.none)=some q):b=true/\x=some q:=by
 cases b with
 |false=>nomatch e
 |true=>exact⟨rfl,e⟩
noncomputable def P8(P:H->Prop)(n:H):Prop:=@nZ (λ_=>Prop) jz (λi a=>P i/\a) n
theorem rZ(h:P8 P n):∀j,j<n->P j:=by
 induction n with
 |zero=>exact λ_ h=>bP h (zq _)
 |succ n O=>exact λj hj=>(Rf.mp hj).elim (O h.2 j) λq=>q▸h.1
theorem M3{x y:G H}:vj x y=true↔x=y:=by
 induction x generalizing y with
 |nil=>cases y with
  |nil=>exact⟨λ_=>rfl,λ_=>rfl⟩
  |cons=>exact⟨mQ,Yz⟩
 |cons a x O=>cases y with
  |nil=>exact⟨mQ,xY⟩
  |cons b y=>
   refine(?_:@bN (λ_=>ah) false (vj x y) (bA a b)=true↔_)
   cases h:bA a b with
   |true=>
    rw [<-dU h]
    exact⟨λq=>cq _ (O.mp q),λq=>O.mpr (qz q).2⟩
   |false=>exact⟨mQ,λq=>bP (qz q).1 (CL h)⟩
theorem lV:seq a b=true↔a=b:=by
 obtain⟨⟨x⟩⟩:=a
 obtain⟨⟨y⟩⟩:=b
 refine(?_:vj x y=true↔_)
 rw [M3]
 constructor
 .rintro rfl;rfl
 .intro h;injection h with h;injection h
theorem seq_eq(a b:ar):seq a b=decide (a=b):=by
 by_cases h:a=b
 .rw [ix h];exact lV.mpr h
 .rw [jf h]
  cases q:seq a b with
  |false=>rfl
  |true=>exact bP (lV.mp q) h
theorem gM{α:Type}(B m:G α):app B m=B++m:=by
 induction B with
 |nil=>rfl
 |cons a B O=>show a::app B m=_;rw [O];rfl
theorem oN{α:Type}(B:G α):∀k:H,fJ B k=B[k]?:=by
 induction B with
 |nil=>exact λ_=>rfl
 |cons a B O=>exact λk=>k.casesOn rfl O
theorem qb{α:Type}(B:G α):∀(k:H) (v:α),qa B k v=B.set k v:=by
 induction B with
 |nil=>exact λ_ _=>rfl
 |cons a B O=>exact λk=>k.casesOn (λ_=>rfl) λk v=>cq (List.cons a) (O k v)
theorem j5(a b:ba):ltZ a b=true↔a<b:=Z.ltB_iff a b
theorem ltZ_eq(a b:ba):ltZ a b=decide (a<b):=by
 by_cases h:a<b
 .rw [ix h];exact(j5 a b).mpr h
 .rw [jf h]
  cases q:ltZ a b with
  |false=>rfl
  |true=>exact bP ((j5 a b).mp q) h
theorem jC(a b:ba):eqZ a b=true↔a=b:=by
 cases a with
 |ofNat m=>cases b with
  |ofNat n=>exact⟨λh=>cq _ (dU h),λh=>Int.ofNat.inj h▸CH m⟩
  |negSucc n=>exact⟨λh=>mQ (h:false=true),λh=>nomatch h⟩
 |negSucc m=>cases b with
  |ofNat n=>exact⟨λh=>mQ (h:false=true),λh=>nomatch h⟩
  |negSucc n=>exact⟨λh=>cq _ (dU h),λh=>Int.negSucc.inj h▸CH m⟩
theorem eqZ_eq(a b:ba):eqZ a b=decide (a=b):=by
 by_cases h:a=b
 .rw [ix h];exact(jC a b).mpr h
 .rw [jf h]
  cases q:eqZ a b with
  |false=>rfl
  |true=>exact bP ((jC a b).mp q) h
theorem acA{α:Type}(B:G α):∀m:G α,Ho B m=B.reverse++m:=by
 induction B with
 |nil=>exact λ_=>rfl
 |cons a B O=>exact λm=>(O (a::m)).trans (by rw [rP,l_];rfl)
theorem fD{α:Type}(B:G α):rv B=B.reverse:=by show Ho B []=_;rw [acA];simp
section
noncomputable abbrev kX(V:dS aw)(n:H):jy:={cls:=.type "tuple",data:=.seq V n}
noncomputable abbrev fT(V:dS aw)(n:H):jy:={cls:=.type "list",data:=.seq V n}
noncomputable def cM(F C:G aA)(a:aA):Prop:=a∉F/\a∉C
structure WB where
 w:dF
 tok:H->G aA->G aA->aP->aw->Prop
 mono:∀{i:H} {F C:G aA} {h:aP} {F' ao:G aA} {M:aP} {v:aw},(∀a E,h.get? a=some E->cM F C a->M.get? a=some E/\cM F' ao a)->tok i F C h v->tok i F' ao M v
 hand:∀{i:H} {F C:G aA} {h:aP} {v:aw},tok i F C h v->handedIn v=true
section rel
variable(c:a_)(w:WB)
inductive Under{K:Type}(P:D->aw->Prop)(key:K->D):G (D×D)->G (K×aw)->Prop
 |nil:Under P key [] []
 |cons {k:K} {m:D} {v:aw} {B:G (D×D)} {r:G (K×aw)}:P m v->Under P key B r->Under P key ((key k,m)::B) ((k,v)::r)
mutual
noncomputable def VR(F C:G aA)(h:aP):D->aw->Prop
 |.none,v=>v=.none
 |.bool b,v=>v=.bool b
 |.int i,v=>∃t,v=.int i t
 |.str s,v=>(∃t,v=.str s t)/\g8 s=true
 |.tup B,v=>∃a V n,v=.ref a/\cM F C a/\h.get? a=some (kX V n)/\aW F C h B V.toList
 |.ref i,v=>∃a,C[i]?=some a/\v=.ref a
 |.fn a,v=>v=.ref a
 |.bi b,v=>v=b.value
 |.fuel k,v=>∃i t,v=.int i t/\(k:ba)<=i
 |.aD (.list b) B,v=>∃a V n,v=.ref a/\cM F C a/\h.get? a=some (fT V n)/\B.length<=b/\b<=4096/\aW F C h B V.toList
 |.aD (.dict ks) B,v=>∃a V,v=.ref a/\cM F C a/\(a==tK)=false/\h.DictOf (strKind c w.w) a (ks.zip V)/\ks.length=B.length/\aW F C h B V
 |.aD (.inst aq ks) B,v=>∃a d V,v=.ref a/\cM F C a/\cM F C d/\h.get? a=some (u4 aq d)/\h.DictOf (strKind c w.w) d (ks.zip V)/\ks.length=B.length/\aW F C h B V
 |.tok i,v=>w.tok i F C h v
 |.any,_=>jz
noncomputable def aW(F C:G aA)(h:aP):G D->G aw->Prop
 |[],V=>V=[]
 |m::B,V=>∃v r,V=v::r/\VR F C h m v/\aW F C h B r
end
end rel
section
variable{c:a_}{w:WB}{F C:G aA}{h:aP}
theorem aW.nil:aW c w F C h [] []:=rfl
theorem aW.cons{m:D}{B:G D}{v:aw}{r:G aw}(x:VR c w F C h m v)(y:aW c w F C h B r):aW c w F C h (m::B) (v::r):=⟨v,r,rfl,x,y⟩
inductive dR(c:a_)(w:WB)(F C:G aA)(h:aP)(m:D)(B:G D)(V:G aw):Prop
 |mk (v:aw) (r:G aw):V=v::r->VR c w F C h m v->aW c w F C h B r->dR c w F C h m B V
theorem dR.el{az:Prop}(z:dR c w F C h m B V)(k:∀v r,V=v::r->VR c w F C h m v->aW c w F C h B r->az):az:=z.casesOn k
theorem aW.cj(x:aW c w F C h (m::B) V):dR c w F C h m B V:=
 bw x λv x=>x.elim λr x=>⟨v,r,x.1,x.2.1,x.2.2⟩
inductive gr(c:a_)(w:WB)(F C:G aA)(h:aP)(B:G D)(v:aw):Prop
 |mk (a:aA) (V:dS aw) (n:H):v=.ref a->cM F C a->h.get? a=some (kX V n)->aW c w F C h B V.toList->gr c w F C h B v
theorem gr.el{az:Prop}(z:gr c w F C h B v)(k:∀a V n,v=.ref a->cM F C a->h.get? a=some (kX V n)->aW c w F C h B V.toList->az):az:=z.casesOn k
theorem VR.gj(x:VR c w F C h (.tup B) v):gr c w F C h B v:=by
 refine dO x λa V n e bB=>cf bB λf g y=>?_
 exact⟨a,V,n,e,f,g,y⟩
theorem aW.dW(x:aW c w F C h [] V):V=[]:=x
theorem aW.length:aW c w F C h B V->V.length=B.length:=by
 induction B generalizing V with
 |nil=>exact λx=>x.dW▸rfl
 |cons m B O=>
  intro x
  refine dR.el x.cj λv r aE _ y=>?_;subst aE
  exact cq (· +1) (O y)
theorem aW.one(x:VR c w F C h m v):aW c w F C h [m] [v]:=.cons x .nil
theorem aW.append:aW c w F C h B V->aW c w F C h l' gn->aW c w F C h (B++l') (V++gn):=by
 induction B generalizing V with
 |nil=>exact λx y=>x.dW▸y
 |cons m B O=>
  intro x y
  refine dR.el x.cj λv r aE a b=>?_;subst aE
  exact .cons a (O b y)
theorem aW.reverse:aW c w F C h B V->aW c w F C h B.reverse V.reverse:=by
 induction B generalizing V with
 |nil=>exact λx=>x.dW▸.nil
 |cons m B O=>
  intro x
  refine dR.el x.cj λv r aE a b=>?_;subst aE
  rw [rP,rP]
  exact(O b).append (.one a)
theorem aW.take(k:H):aW c w F C h B V->aW c w F C h (B.take k) (V.take k):=by
 induction B generalizing V k with
 |nil=>exact λx=>x.dW▸(by rw [Q5,Q5];exact .nil)
 |cons m B O=>cases k with
  |zero=>exact λ_=>.nil
  |succ k=>
   intro x
   refine dR.el x.cj λv r aE a b=>?_;subst aE
   exact .cons a (O k b)
theorem aW.drop(k:H):aW c w F C h B V->aW c w F C h (B.drop k) (V.drop k):=by
 induction B generalizing V k with
 |nil=>exact λx=>x.dW▸(by rw [QE,QE];exact .nil)
 |cons m B O=>cases k with
  |zero=>exact λx=>x
  |succ k=>
   intro x
   refine dR.el x.cj λv r aE a b=>?_;subst aE
   exact O k b
theorem aW.get{k:H}:aW c w F C h B V->B[k]?=some m->∃v,V[k]?=some v/\VR c w F C h m v:=by
 induction B generalizing V k with
 |nil=>exact λ_ e=>nomatch e
 |cons a B O=>
  intro x e
  refine dR.el x.cj λv r aE q y=>?_;subst aE
  cases k with
  |zero=>exact⟨v,rfl,aM e▸q⟩
  |succ k=>exact O (V:=r) (k:=k) y e
theorem aW.get'{k:H}(x:aW c w F C h B V)(e:V[k]?=some v):∃m,B[k]?=some m/\VR c w F C h m v:=by
 have hl:=x.length
 have hk:k<B.length:=by
  refine bw (eM.mp e) λp _=>?_
  lia
 refine ay (x.get (cV hk)) λu hu hr=>?_
 rw [e] at hu;cases hu
 exact⟨_,cV hk,hr⟩
theorem aW.dropLast(x:aW c w F C h B V):aW c w F C h B.dropLast V.dropLast:=by
 rw [ze,ze,x.length];exact x.take _
end
structure bh(own C:G aA)(h:aP)(ao:G aA)(M:aP):Prop where
 pre:C<+:ao
 keep:∀b E,h.get? b=some E->b∉C->b∉own->M.get? b=some E
 out:∀b E,h.get? b=some E->b∉C->(∃o',M.get? b=some o')/\b∉ao
theorem bh.refl(own C:G aA)(h:aP):bh own C h C h:=⟨mT _,λ_ _ e _ _=>e,λb E e n=>⟨⟨E,e⟩,n⟩⟩
theorem bh.trans(x:bh own C h ao M)(y:bh own ao M IQ ED):bh own C h IQ ED:=
 ⟨x.pre.trans y.pre,λb E e n m=>y.keep b E (x.keep b E e n m) (x.out b E e n).2 m,λb E e n=>let⟨⟨o',e'⟩,I⟩:=x.out b E e n;y.out b o' e' I⟩
theorem bh.of_keeps(k:∀b E,h.get? b=some E->M.get? b=some E):bh own C h C M:=⟨mT _,λb E e n _=>k b E e,λb E e n=>⟨⟨E,k b E e⟩,n⟩⟩
theorem bh.more(x:bh own C h ao M)(q:∀b∈own,b∈jq\/h.get? b=none):bh jq C h ao M:=
 ⟨x.pre,λb E e n m=>x.keep b E e n λz=>(q b z).elim m λy=>(nomatch (e.symm.trans y:some E=none)),x.out⟩
theorem bh.any(x:bh [] C h ao M):bh own C h ao M:=x.more λb q=>nomatch q
section
variable{c:a_}{w:WB}{F C ao:G aA}{h M:aP}
theorem sg{K:Type} [jw K]{fS:KeyKind c w.w K}{aR:G (K×aw)}(x:h.DictOf fS a aR)(k:∀E,h.get? a=some E->M.get? a=some E):M.DictOf fS a aR:=x.imp λE x=>x.imp λ_ x=>x.imp λ_ x=>⟨k E x.1,x.2⟩
theorem qJ{K:Type} [jw K]{fS:KeyKind c w.w K}{aR:G (K×aw)}(x:h.DictOf fS a aR):∃E,h.get? a=some E:=x.imp λ_ x=>x.elim λ_ x=>x.elim λ_ x=>x.1
theorem cM.step(s:bh own C h ao M)(e:h.get? a=some E)(x:cM F C a):cM F ao a:=⟨x.1,(s.out a E e x.2).2⟩
theorem bh.at(hF:∀b∈own,b∈F)(s:bh own C h ao M)(x:cM F C a):∀E,h.get? a=some E->M.get? a=some E:=λE e=>s.keep a E e x.2 λq=>x.1 (hF a q)
noncomputable def noRef(m:D):ah:=@D.rec (λ_=>ah) (λ_=>ah) true (λ_=>true) (λ_=>true) (λ_=>true) (λ_ x=>x) (λ_=>false) (λ_=>true) (λ_=>true) (λ_=>true) (λ_ _ x=>x) true (λ_=>true) true (λ_ _ x y=>x&&y) m
noncomputable def q9(B:G D):ah:=@b9 D (λ_=>ah) true (λa _ y=>noRef a&&y) B
theorem Gx(B:G D):noRef (.tup B)=q9 B:=by
 refine(?_:@D.rec_1 (λ_=>ah) (λ_=>ah) true (λ_=>true) (λ_=>true) (λ_=>true) (λ_ x=>x) (λ_=>false) (λ_=>true) (λ_=>true) (λ_=>true) (λ_ _ x=>x) true (λ_=>true) true (λ_ _ x y=>x&&y) B=q9 B)
 induction B with
 |nil=>rfl
 |cons a B O=>show(noRef a&&_)=(noRef a&&q9 B);rw [<-O]
theorem NK(k:FK)(B:G D):noRef (.aD k B)=q9 B:=Gx B
theorem D.ind{P:D->Prop}(none:P .none)(bool:∀b,P (.bool b))(int:∀i,P (.int i))(str:∀s,P (.str s))(tup:∀B,(∀m∈B,P m)->P (.tup B))(ref:∀i,P (.ref i))(fn:∀a,P (.fn a))(bi:∀b,P (.bi b))(fuel:∀k,P (.fuel k))
  (aD:∀k B,(∀m∈B,P m)->P (.aD k B)) (any:P .any) (tok:∀i,P (.tok i)) (m:D):P m:=
 @D.rec P (λB=>∀m∈B,P m) none bool int str tup ref fn bi fuel aD any tok (λ_ h=>nomatch h) (λ_ _ a b m h=>(bY.mp h).elim (λe=>e▸a) (b m)) m
theorem Gy(h:m∈B)(r:q9 B=true):noRef m=true:=by
 induction h with
 |head=>exact(aN.mp r).1
 |tail _ _ O=>exact O (aN.mp r).2
theorem aW.map(q:∀m∈B,∀v,VR c w F C h m v->VR c w' F' ao M m v):∀{V:G aw},aW c w F C h B V->aW c w' F' ao M B V:=by
 induction B with
 |nil=>exact λx=>x.dW▸.nil
 |cons m B O=>
  intro V x
  refine dR.el x.cj λv r aE a b=>?_;subst aE
  exact .cons (q m (.head _) v a) (O (λm hm=>q m (.tail _ hm)) b)
theorem VR.mono{F':G aA}(k:∀a E,h.get? a=some E->cM F C a->M.get? a=some E/\cM F' ao a):∀{v:aw},(noRef m=true\/∀(i:H) (a:aA),C[i]?=some a->ao[i]?=some a)->VR c w F C h m v->VR c w F' ao M m v:=
 D.ind (P:=λm=>∀{v:aw},(noRef m=true\/∀(i:H) (a:aA),C[i]?=some a->ao[i]?=some a)->VR c w F C h m v->VR c w F' ao M m v)
  (λ_ x=>x) (λ_ _ _ x=>x) (λ_ _ _ x=>x) (λ_ _ _ x=>x)
  (λB O v r x=>by
   rw [Gx] at r
   refine gr.el x.gj λa V n e f g y=>?_
   exact⟨a,V,n,e,(k _ _ g f).2,(k _ _ g f).1,y.map λm hm v=>O m hm (r.imp_left (Gy hm))⟩)
  (λi v r x=>by
   refine ay x λa e q=>?_
   exact⟨a,r.elim (λz=>mQ (z:false=true)) (λz=>z i a e),q⟩)
  (λ_ _ _ x=>x) (λ_ _ _ x=>x) (λ_ _ _ x=>x)
  (λI B O v r x=>by
   rw [NK] at r
   have go:∀{V:G aw},aW c w F C h B V->aW c w F' ao M B V:=λy=>y.map λm hm v=>O m hm (r.imp_left (Gy hm))
   cases I with
   |list b=>
    refine dO x λa V n e bB=>eN bB λf g b1 dA=>xA dA λb2 y=>?_
    exact⟨a,V,n,e,(k _ _ g f).2,(k _ _ g f).1,b1,b2,go y⟩
   |dict ks=>
    refine eK x λa V e f ns bB=>cf bB λg b1 y=>?_
    refine bw (qJ g) λE ho=>?_
    exact⟨a,V,e,(k _ _ ho f).2,ns,sg g (λE q=>(k _ _ q f).1),b1,go y⟩
   |inst aq ks=>
    refine dO x λa d V e bB=>eN bB λf f' g dA=>cf dA λg' b1 y=>?_
    refine bw (qJ g') λE ho=>?_
    exact⟨a,d,V,e,(k _ _ g f).2,(k _ _ ho f').2,(k _ _ g f).1,sg g' (λE q=>(k _ _ q f').1),b1,go y⟩)
  (λ_ _=>trivial) (λ_ _ _ x=>w.mono k x) m
theorem aW.mono(k:∀a E,h.get? a=some E->cM F C a->M.get? a=some E/\cM F' ao a)(r:q9 B=true\/∀(i:H) (a:aA),C[i]?=some a->ao[i]?=some a)(x:aW c w F C h B V):aW c w F' ao M B V:=
 x.map λm hm v=>VR.mono k (r.imp_left (Gy hm))
theorem bh.pl(s:bh own C h ao M):∀(i:H) (a:aA),C[i]?=some a->ao[i]?=some a:=λi a e=>by
 refine bw s.pre λt aI=>?_;subst aI
 have:=(eM.mp e).1
 rw [iD this];exact e
theorem VR.fx(hF:∀b∈own,b∈F)(s:bh own C h ao M)(x:VR c w F C h m v):VR c w F ao M m v:=x.mono (λa E e f=>⟨s.at hF f E e,f.step s e⟩) (.inr s.pl)
theorem aW.fx(hF:∀b∈own,b∈F)(s:bh own C h ao M)(x:aW c w F C h B V):aW c w F ao M B V:=x.mono (λa E e f=>⟨s.at hF f E e,f.step s e⟩) (.inr s.pl)
theorem ta:∀b∈([]:G aA),b∈F:=λb q=>nomatch q
theorem VR.step(s:bh [] C h ao M)(x:VR c w F C h m v):VR c w F ao M m v:=x.fx ta s
theorem aW.step(s:bh [] C h ao M)(x:aW c w F C h B V):aW c w F ao M B V:=x.fx ta s
end
noncomputable def OR(c:a_)(w:WB)(F C:G aA)(h:aP)(a:aA):cL->Prop
 |.list b r=>∃V n,h.get? a=some (fT V n)/\aW c w F C h r V.toList.reverse/\r.length<=b/\b<=4096
 |.dict R=>((∃aR,h.DictOf (strKind c w.w) a aR/\Under (VR c w F C h) D.str R aR/\∀p∈aR,g8 p.1=true)\/(∃aR,h.DictOf (lE c w.w) a aR/\Under (VR c w F C h) D.int R aR))/\R.length<=4096
 |.inst aq d=>∃dx,C[d]?=some dx/\h.get? a=some (u4 aq dx)
 |.dj=>∃x t y u n,h.get? a=some (fT #[.int x t,.int y u] n)/\0<=x/\0<=y/\y<4294967296
structure St(c:a_)(w:WB)(J:aP)(F C:G aA)(o:MH)(h:aP):Prop where
 keep:∀b E,J.get? b=some E->h.get? b=some E/\b∉C
 len:o.n=C.length
 apart:C.Nodup
 cI:∀a∈F,(∃E,h.get? a=some E)/\a∉C/\J.get? a=none
 at_:∀i a,C[i]?=some a->∃E,o.t.get i=some E/\OR c w F C h a E
section
variable{c:a_}{w:WB}{F C ao:G aA}{J h M:aP}{o:MH}
theorem Under.imp{K:Type}{key:K->D}(f:∀m v,P m v->Q m v){aR:G (K×aw)}(x:Under P key R aR):Under Q key R aR:=by
 induction x with
 |nil=>exact .nil
 |cons a _ O=>exact .cons (f _ _ a) O
theorem Under.length(x:Under P key R aR):R.length=aR.length:=by
 induction x with
 |nil=>rfl
 |cons _ _ O=>exact cq (· +1) O
theorem OR.some{a:aA}(x:OR c w F C h a E):∃ob,h.get? a=zu ob:=by
 cases E with
 |list=>exact bw x λ_ x=>x.elim λ_ x=>⟨_,x.1⟩
 |dict=>exact x.1.elim (λx=>x.elim λ_ x=>qJ x.1) (λx=>x.elim λ_ x=>qJ x.1)
 |inst=>exact bw x λ_ x=>⟨_,x.2⟩
 |dj=>obtain⟨x,t,y,u,n,e,_⟩:=x;exact⟨_,e⟩
theorem tj{F':G aA}(k:∀a E,h.get? a=some E->cM F C a->M.get? a=some E/\cM F' ao a)(pl:∀(i:H) (a:aA),C[i]?=some a->ao[i]?=some a)(ka:M.get? a=h.get? a){E:cL}(x:OR c w F C h a E):OR c w F' ao M a E:=by
 cases E with
 |list=>
  refine eO x ?_;clear x;intro V n e x y
  exact⟨V,n,ka.trans e,x.mono k (.inr pl),y⟩
 |dict=>exact⟨x.1.imp (λx=>x.elim λaR x=>⟨aR,sg x.1 (λE q=>ka.trans q),x.2.1.imp λm v q=>q.mono k (.inr pl),x.2.2⟩) (λx=>x.elim λaR x=>⟨aR,sg x.1 (λE q=>ka.trans q),x.2.imp λm v q=>q.mono k (.inr pl)⟩),x.2⟩
 |inst=>exact bw x λdx x=>⟨dx,pl _ _ x.1,ka.trans x.2⟩
 |dj=>
  refine gK x λx t bB=>dO bB λy u n e r=>?_
  exact⟨x,t,y,u,n,ka.trans e,r⟩
theorem OR.step(hF:∀b∈own,b∈F)(s:bh own C h ao M)(k:M.get? a=h.get? a)(x:OR c w F C h a E):OR c w F ao M a E:=tj (λa E e f=>⟨s.at hF f E e,f.step s e⟩) s.pl k x
theorem St.place(S:St c w J F C o h)(e:o.t.get i=zu E)(hi:i<o.n):∃a,C[i]?=zu a/\OR c w F C h a E:=by
 rw [S.len] at hi
 refine ay (S.at_ i _ (cV hi)) λo' e' r=>?_
 rw [e] at e';cases e'
 exact⟨_,cV hi,r⟩
theorem St.ref(S:St c w J F C o h)(e:C[i]?=zu a)(q:o.t.get i=zu E):OR c w F C h a E:=by
 refine ay (S.at_ i a e) λo' e' r=>?_
 rw [q] at e';cases e'
 exact r
end
end
section
variable{c:a_}{w:WB}{F C ao:G aA}{J h M:aP}{o:MH}
theorem hV(h:aP):h.get? h.objs.size=none:=by
 cases e:h.get? h.objs.size with
 |none=>rfl
 |some E=>exact bP (wo e) (zo _)
theorem St.alloc(S:St c w J F C o h)(hn:h.get? a=none)(hk:∀b x,h.get? b=some x->M.get? b=some x)(ho:OR c w F (C++[a]) M a E)
  (hc:cJ ((o.t.ins o.n E).get o.n)=true):bh [] C h (C++[a]) M/\St c w J F (C++[a]) ⟨o.t.ins o.n E,o.n+1⟩ M/\(C++[a])[o.n]?=some a:=by
 have na:a∉C:=λq=>by
  obtain⟨i,hi,e⟩:=iE q
  refine ay (S.at_ i a (by rw [cV hi,e])) λx _ r=>?_
  refine bw r.some λy hy=>?_
  rw [hn] at hy;exact aB hy
 have st:bh [] C h (C++[a]) M:=⟨wF ..,λb x e _ _=>hk b x e,λb x e n=>⟨⟨x,hk b x e⟩,λq=>by
  refine dC (dI.mp q) (λq=>?_) λq=>?_
  .exact n q
  .rw [cA.mp q,hn] at e;exact aB e⟩⟩
 have EL:((o.t.ins o.n E).get o.n).isSome=true:=by cases q:(o.t.ins o.n E).get o.n with
  |none=>rw [q] at hc;exact bz hc
  |some _=>rfl
 refine⟨st,⟨λb x e=>?_,by simp [S.len],?_,λb hb=>?_,λi b e=>?_⟩,by rw [S.len];simp⟩
 .exact⟨hk b x (S.keep b x e).1,(st.out b x (S.keep b x e).1 (S.keep b x e).2).2⟩
 .rw [wD]
  exact⟨S.apart,by simp,λx hx y hy=>by rw [cA.mp hy];exact λe=>na (e▸hx)⟩
 .obtain⟨⟨x,hx⟩,n1,n2⟩:=S.cI b hb
  exact⟨⟨x,hk b x hx⟩,(st.out b x hx n1).2,n2⟩
 .rw [MT.get_ins E o.t o.n EL i]
  by_cases hi:i=o.n
  .subst hi
   rw [S.len] at e
   simp at e
   subst e
   exact⟨E,by simp,ho⟩
  .rw [bk hi]
   have gS:i<C.length:=by
    have:=(eM.mp e).1
    rw [fy] at this
    simp at this
    rw [S.len] at hi
    lia
   rw [iD gS] at e
   refine ay (S.at_ i b e) λx hx r=>?_
   refine bw r.some λy hy=>?_
   exact⟨x,hx,r.step ta st ((hk b y hy).trans hy.symm)⟩
theorem St.put(S:St c w J F C o h)(hi:C[i]?=some a)(hs:iC a h M)(ho:bh [] C h C M->OR c w F C M a E):bh [] C h C M/\St c w J F C ⟨o.t.set i E,o.n⟩ M:=by
 have ma:a∈C:=dy hi
 have st:bh [] C h C M:=⟨mT _,λb x e n _=>(hs.2 b λq=>n (q▸ma)).trans e,λb x e n=>⟨⟨x,(hs.2 b λq=>n (q▸ma)).trans e⟩,n⟩⟩
 refine⟨st,λb x e=>⟨(hs.2 b λq=>(S.keep b x e).2 (q▸ma)).trans (S.keep b x e).1,(S.keep b x e).2⟩,S.len,S.apart,λb hb=>?_,λj b e=>?_⟩
 .obtain⟨⟨x,hx⟩,n1,n2⟩:=S.cI b hb
  exact⟨⟨x,(hs.2 b λq=>n1 (q▸ma)).trans hx⟩,n1,n2⟩
 .refine ay (S.at_ j b e) λx hx r=>?_
  rw [MT.get_set E o.t i j]
  by_cases hj:j=i
  .subst hj
   rw [hi] at e;cases e
   rw [bT rfl,hx]
   exact⟨E,rfl,ho st⟩
  .rw [bk hj]
   have:b≠a:=λq=>hj (by
    obtain rfl:=q.symm
    have h1:=(eM.mp e)
    have h2:=(eM.mp hi)
    refine bw h1 λl1 e1=>?_
    refine bw h2 λl2 e2=>?_
    exact(rK S.apart).mp (e1.trans e2.symm))
   exact⟨x,hx,r.step ta st (hs.2 b this)⟩
theorem St.grow(S:St c w J F C o h)(hk:∀b x,h.get? b=some x->M.get? b=some x):bh [] C h C M/\St c w J F C o M:=by
 have st:bh [] C h C M:=.of_keeps hk
 refine⟨st,λb x e=>⟨hk _ _ (S.keep b x e).1,(S.keep b x e).2⟩,S.len,S.apart,λb hb=>?_,λj b e=>?_⟩
 .obtain⟨⟨x,hx⟩,n⟩:=S.cI b hb
  exact⟨⟨x,hk b x hx⟩,n⟩
 .refine ay (S.at_ j b e) λx hx r=>?_
  refine bw r.some λy hy=>?_
  exact⟨x,hx,r.step ta st ((hk b y hy).trans hy.symm)⟩
theorem St.side(hF:∀b∈own,b∈F)(S:St c w J F C o h)(st:bh own C h C M)(hk:∀b x,J.get? b=some x->M.get? b=some x)(hp:∀a∈C,M.get? a=h.get? a)(hf:∀a∈F,∃E,M.get? a=some E):St c w J F C o M:=by
 refine⟨λb x e=>⟨hk b x e,(S.keep b x e).2⟩,S.len,S.apart,λb hb=>?_,λj b e=>?_⟩
 .obtain⟨⟨x,hx⟩,n⟩:=S.cI b hb
  exact⟨hf b hb,n⟩
 .refine ay (S.at_ j b e) λx hx r=>?_
  exact⟨x,hx,r.step hF st (hp b (dy e))⟩
theorem VR.base(S:St c w J F C o h)(x:VR c w [] [] J m v):VR c w F C h m v:=
 x.mono (λa E e _=>⟨(S.keep a E e).1,⟨(λq=>nomatch (e.symm.trans (S.cI a q).2.2:some E=none)),(S.keep a E e).2⟩⟩) (.inr λi a e=>by simp at e)
end
section
variable{c:a_}{w:WB}{Y:bG}{own C:G aA}{s:aT}{α β:Type}
noncomputable def bc(c:a_)(w:WB)(Y:bG)(own C:G aA)(s:aT)(t:iT α)(P:α->G aA->aP->Prop):Prop:=
 ∀(Q:α->aT->Prop) (au:aw->aT->Prop),(∀a ao M tk,bh own C s.heap ao M->P a ao M->Q a {s with heap:=M,toks:=tk})->bo (bK c w.w) Y t Q au s
theorem bc.bind(x:bc c w Y own C s t P)
  (y:∀a ao M tk,bh own C s.heap ao M->P a ao M->bc c w Y own ao {s with heap:=M,toks:=tk} (f a) P'):bc c w Y own C s (t>>=f) P':=λQ au k=>
 aO (x _ _ λa ao M tk st p=>y a ao M tk st p Q au λb IQ ED mN j9 p'=>k b IQ ED mN (st.trans j9) p')
theorem bc.mono(x:bc c w Y own C s t P)(y:∀a ao M,bh own C s.heap ao M->P a ao M->P' a ao M):bc c w Y own C s t P':=λQ au k=>
 x _ _ λa ao M tk st p=>k a ao M tk st (y a ao M st p)
theorem bc.any(x:bc c w Y [] C s t P):bc c w Y own C s t P:=λQ au k=>
 x _ _ λa ao M tk st p=>k a ao M tk st.any p
theorem bc.pure(p:P a C s.heap):bc c w Y own C s (Pure.pure a) P:=λQ au k=>bX (k a C s.heap s.toks (.refl ..) p)
theorem bc.seq(x:∀(Q:α->aT->Prop) (au:aw->aT->Prop),Q a s->bo (bK c w.w) Y t Q au s)(y:bc c w Y own C s (f a) P'):bc c w Y own C s (t>>=f) P':=λQ au k=>
 aO (x _ _ (y Q au k))
end
noncomputable def eY(n:H)(Y:bG):Prop:=Y.handled=none/\Y.depth+2*n+10<1000/\Y.units+16*n+200<9900
theorem eY.le(le:m<=n)(x:eY n Y):eY m Y:=⟨x.1,zp (ua (CF (Rm 2 le) _) 10) x.2.1,zp (ua (CF (Rm 16 le) _) 200) x.2.2⟩
theorem eY.down(x:eY (n+1) Y):eY n Y:=x.le (ue n)
noncomputable def Ck(c:a_)(w:WB)(J:aP)(mg mb:ar->aa aw)(x:ar)(m:D):Prop:=
 (∃v,mg x=some v/\VR c w [] [] J m v)\/(mg x=none/\∃b,m=.bi b/\mb x=some b.value)
noncomputable def xa(K:b8)(names:G ar)(aq:H)(ms:G (ar×H)):ah:=
 makesIn K aq&&(clsIn K aq).any (·.hasDict)&&plainOver K aq&&oC K (.ref aq) "__getattribute__" ==some (some (.builtin "object.__getattribute__"))&&oC K (.ref aq) "__getattr__" ==some none&&
 oC K (.ref aq) "__setattr__" ==some (some (.builtin "object.__setattr__"))&&(names.all λx=>g8 x&&oC K (.ref aq) x==some none)&&
 (ms.all λp=>oC K (.ref aq) p.1==some (some (.ref p.2))&&typeIn K (.ref p.2)==some (.type "function"))
noncomputable def Gives{α:Type}(s:aT)(C:G aA)(r:α):α->G aA->aP->Prop:=λv ao M=>v=r/\ao=C/\M=s.heap
noncomputable def tV(c:a_)(w:WB)(J:aP)(a b:D)(r:ah):Prop:=
 ∀(Y:bG) (own F C:G aA) (s:aT) (o:MH) (x y:aw),St c w J F C o s.heap->Y.units+61<fP->VR c w F C s.heap a x->VR c w F C s.heap b y->
  bc c w Y own C s (iq .Eq x y) (Gives s C (.bool r))/\bc c w Y own C s (iq .NotEq x y) (Gives s C (.bool (!r)))
structure Top(c:a_)(w:WB)(K:b8)(W:bQ)(J:aP)(mg mb:ar->aa aw):Prop where
 AO:K.In J
 ng:J.Ns mB mg
 nb:J.Ns qH mb
 lim:J.NoLimit
 sys:∃E,J.get? tK=some E
 glob:∀x m,W.glob x=some m->Ck c w J mg mb x m
 cls:∀aq p,W.cls aq=some p->xa K p.2 aq p.1=true
 call:∀a,r9 W (.fn a)=true->keepIn K (.ref a)=true
 rz:∀i m F C h v,W.rz i=some m->w.tok i F C h v->VR c w F C h m v
 eqv:∀a b r,W.eqv a b=some r->tV c w J a b r
theorem XG(sc:G (ar×dc))(x:ar):∀(n j:H) (k:dc),idxOf sc x n=some (j,k)->n<=j/\sc[j-n]?=some (x,k)/\sc.lookup x=some k:=by
 induction sc with
 |nil=>exact λ_ _ _ e=>nomatch e
 |cons p sc O=>
  intro n j k e
  have e':@bN (λ_=>aa (H×dc)) (idxOf sc x (cX n)) (some (n,p.2)) (seq p.1 x)=some (j,k):=e
  rw [seq_eq] at e'
  obtain⟨y,z⟩:=p
  by_cases q:y=x
  .rw [ix q] at e'
   refine xA (iS (aM e')) λeJ aI=>?_;rw [eJ];rw [<-aI]
   rw [Rt,q,jM,r7]
   exact⟨fG _,rfl,rfl⟩
  .rw [jf q] at e'
   refine cf (O (n+1) j k e') λh1 h2 h3=>?_
   rw [jM,mn.mpr (n7 q)]
   refine⟨Rd h1,?_,h3⟩
   rw [(Rq (Rr h1)).symm.trans (cq (· +1) (Ru j n 1))]
   exact h2
theorem jZ(e:idxOf sc x 0=some (j,k)):sc[j]?=some (x,k)/\sc.lookup x=some k:=by
 refine cf (XG sc x 0 j k e) λ_ h2 h3=>?_
 exact⟨h2,h3⟩
theorem gQ{α:Type}{gL:Model}{Y:bG}{s:aT}{t:iT α}{Q:α->aT->Prop}{au:aw->aT->Prop}(h:∀(Q':α->aT->Prop) (E':aw->aT->Prop),(∀a s,Q a s->Q' a s)->(∀a s,au a s->E' a s)->bo gL Y t Q' E' s):bo gL Y t Q au s:=h Q au (λ_ _ x=>x) λ_ _ x=>x
theorem gB{α β:Type}{gL:Model}{Y:bG}{s:aT}{m:iT α}{f:α->iT β}{Q:β->aT->Prop}{au:aw->aT->Prop}(h:∀f':α->iT β,(∀Y a Q au s,bo gL Y (f a) Q au s->bo gL Y (f' a) Q au s)->bo gL Y m (λa s=>bo gL Y (f' a) Q au s) au s):bo gL Y (m>>=f) Q au s:=aO (h f λ_ _ _ _ _ x=>x)
noncomputable def ownOf(X:cK):G aA:=X.locals::X.cells.map (·.2)
noncomputable abbrev pd(c:a_)(w:WB)(F C:G aA)(h:aP)(sc:G (ar×dc))(vars:G (aa D))(L:aA):Prop:=
 ∃m,h.Ns L m/\∀(i:H) (x:ar) (mv:D),sc[i]?=some (x,qC)->vars[i]?=some (some mv)->∃v,m x=some v/\VR c w F C h mv v
noncomputable abbrev nU(c:a_)(w:WB)(F C:G aA)(h:aP)(vars:G (aa D))(X:cK)(i:H)(x:ar):Prop:=
 ∃I ov,X.cells.lookup x=some I/\h.IsCell I ov/\I≠X.locals/\∀mv,vars[i]?=some (some mv)->∃v,ov=some v/\VR c w F C h mv v
structure dm(c:a_)(w:WB)(F C:G aA)(h:aP)(sc:G (ar×dc))(vars:G (aa D))(X:cK):Prop where
 kind:X.scope.kind=.function
 names:X.scope.names=sc
 glob:X.globals=mB
 blt:X.builtins=qH
 own:∀b∈ownOf X,b∈F
 loc:pd c w F C h sc vars X.locals
 cell:∀(i:H) (x:ar),sc[i]?=some (x,pg)->nU c w F C h vars X i x
 apart:∀x y I,X.cells.lookup x=some I->X.cells.lookup y=some I->x=y
 nd:(sc.map (·.1)).Nodup
structure mR(c:a_)(w:WB)(F C:G aA)(h:aP)(sc cB:G (ar×dc))(vars jU:G (aa D))(X:cK):Prop where
 kind:X.scope.kind=.function
 glob:X.globals=mB
 blt:X.builtins=qH
 kinds:∀(i:H) (x:ar) (k:dc),idxOf cB x 0=some (i,k)->(k=.local->X.kindOf x=some .local)/\(k=.globalImplicit->X.kindOf x=some .globalImplicit)/\(k=.free->∀j,idxOf sc x 0=some (j,.cell)->X.kindOf x=some .cell)
 own:X.locals∈F
 KC:∀p∈X.cells,p.2∈F
 loc:pd c w F C h cB jU X.locals
 cell:∀(i:H) (x:ar),sc[i]?=some (x,pg)->cB.lookup x=some rQ->nU c w F C h vars X i x
 nd:(cB.map (·.1)).Nodup
noncomputable def cH(c:a_)(w:WB)(F C:G aA)(h:aP)(cx:Cx)(fr:Fm)(X:cK):Prop:=match cx.comp with
 |.none=>dm c w F C h cx.sc fr.vars X
 |some cB=>mR c w F C h cx.sc cB fr.vars fr.jU X
section
variable{c:a_}{w:WB}{F C ao:G aA}{h M:aP}
theorem Bf(x:h.Ns a m):∃E,h.get? a=some E:=x.imp λ_ x=>x.elim λ_ x=>x.elim λ_ x=>x.1
theorem GD(x:h.Ns a m)(k:∀E,h.get? a=some E->M.get? a=some E):M.Ns a m:=let⟨E,R,ep,ho,r⟩:=x;⟨E,R,ep,k E ho,r⟩
theorem Kl(x:h.IsCell a m)(k:∀E,h.get? a=some E->M.get? a=some E):M.IsCell a m:=let⟨E,ho,r⟩:=x;⟨E,k E ho,r⟩
theorem lookup_mem{α:Type}{B:G (ar×α)}{I:α}(e:B.lookup x=some I):(x,I)∈B:=mem_of_lookup e
theorem pd.gen(kp:∀E,h.get? L=some E->M.get? L=some E)(hv:∀(i:H) (m':D),qm[i]?=some (some m')->∃m,vars[i]?=some (some m)/\∀v,VR c w F C h m v->VR c w' F' ao M m' v)
  (x:pd c w F C h sc vars L):pd c w' F' ao M sc qm L:=
 ay x λm hm g=>⟨m,GD hm kp,λi y mv e1 e2=>ay (hv i mv e2) λm1 q1 q2=>ay (g i y m1 e1 q1) λv e3 e4=>⟨v,e3,q2 v e4⟩⟩
theorem nU.gen(kp:∀b∈ownOf X,∀E,h.get? b=some E->M.get? b=some E)(hv:∀(i:H) (m':D),qm[i]?=some (some m')->∃m,vars[i]?=some (some m)/\∀v,VR c w F C h m v->VR c w' F' ao M m' v)
  (x:nU c w F C h vars X i y):nU c w' F' ao M qm X i y:=
 eK x λI ov c1 c2 c4 c5=>⟨I,ov,c1,Kl c2 (kp _ (.tail _ (cF.mpr ⟨_,lookup_mem c1,rfl⟩))),c4,λmv e2=>ay (hv i mv e2) λm1 q1 q2=>ay (c5 m1 q1) λv e3 e4=>⟨v,e3,q2 v e4⟩⟩
theorem dm.gen(kp:∀b∈ownOf X,∀E,h.get? b=some E->M.get? b=some E)(hF:∀b∈ownOf X,b∈F')(hv:∀(i:H) (m':D),qm[i]?=some (some m')->∃m,vars[i]?=some (some m)/\∀v,VR c w F C h m v->VR c w' F' ao M m' v)
  (x:dm c w F C h sc vars X):dm c w' F' ao M sc qm X:=
 ⟨x.kind,x.names,x.glob,x.blt,hF,pd.gen (kp _ (.head _)) hv x.loc,λi y e=>nU.gen kp hv (x.cell i y e),x.apart,x.nd⟩
theorem cH.lP(az:cH c w F C h cx fr X):∀b∈ownOf X,b∈F:=by
 intro b hb
 unfold cH at az
 generalize cx.comp=I at az
 cases I with
 |none=>exact az.own b hb
 |some cB=>
  refine dC (bY.mp hb) (λrf=>?_) λhb=>?_
  .rw [rf];exact az.own
  .refine ay (cF.mp hb) λp hp aE=>?_;rw [<-aE]
   exact az.KC p hp
theorem cH.gen(kp:∀b∈ownOf X,∀E,h.get? b=some E->M.get? b=some E)(hF:∀b∈ownOf X,b∈F')(up:∀m v,VR c w F C h m v->VR c w F' ao M m v)(az:cH c w F C h cx fr X):cH c w F' ao M cx fr X:=by
 unfold cH at az⊢
 have hv:∀{B:G (aa D)} (i:H) (m':D),B[i]?=some (some m')->∃m,B[i]?=some (some m)/\∀v,VR c w F C h m v->VR c w F' ao M m' v:=λi m e=>⟨m,e,up m⟩
 generalize cx.comp=I at az
 cases I with
 |none=>exact dm.gen kp hF hv az
 |some cB=>exact⟨az.kind,az.glob,az.blt,az.kinds,hF _ (.head _),λp hp=>hF _ (.tail _ (cF.mpr ⟨p,hp,rfl⟩)),pd.gen (kp _ (.head _)) hv az.loc,λi y e e'=>nU.gen kp hv (az.cell i y e e'),az.nd⟩
theorem cH.step(s:bh [] C h ao M)(fr:∀a∈F,a∉C)(x:cH c w F C h cx f X):cH c w F ao M cx f X:=
 x.gen (λb hb E e=>s.keep b E e (fr b (x.lP b hb)) λq=>nomatch q) x.lP λ_ _ v=>v.step s
end
section
variable{ag:Type}(ae:ag->Prop)(c:a_)(w:WB)(J:aP)(F:G aA)
inductive PV(K:D->MH->ag)(v:aw)(ao:G aA)(M:aP):Prop
 |mk (m:D) (br:MH):ae (K m br)->St c w J F ao br M->VR c w F ao M m v->PV K v ao M
inductive JF(K:G D->MH->ag)(V:G aw)(ao:G aA)(M:aP):Prop
 |mk (B:G D) (br:MH):ae (K B br)->St c w J F ao br M->aW c w F ao M B V->JF K V ao M
inductive PB(K:ah->MH->ag)(b:ah)(ao:G aA)(M:aP):Prop
 |mk (br:MH):ae (K b br)->St c w J F ao br M->PB K b ao M
end
section
variable{ag:Type}{ae:ag->Prop}{c:a_}{w:WB}{J:aP}{F C:G aA}{K:b8}{W:bQ}{mg mb:ar->aa aw}{Y:bG}{s:aT}{o:MH}{cx:Cx}{fr:Fm}{X:cK}
theorem PV.el{K:D->MH->ag}{az:Prop}(z:PV ae c w J F K v ao M)(k:∀m br,ae (K m br)->St c w J F ao br M->VR c w F ao M m v->az):az:=z.casesOn k
theorem PB.el{K:ah->MH->ag}{az:Prop}(z:PB ae c w J F K b ao M)(k:∀br,ae (K b br)->St c w J F ao br M->az):az:=z.casesOn k
theorem agT{α:Type}(B:G α)(k:H):fJ B k=B[k]?:=oN B k
theorem AX{α:Type}{E:aa (aa α)}{a:α}(e:kN E=some a):E=some (some a):=by
 cases E with
 |none=>exact aB e
 |some x=>exact cq some e
theorem Top.ns(T:Top c w K W J mg mb)(S:St c w J F C o s.heap):s.heap.Ns mB mg/\s.heap.Ns qH mb/\K.In s.heap/\s.heap.NoLimit:=
 ⟨T.ng.keeps λb E e=>(S.keep b E e).1,T.nb.keeps λb E e=>(S.keep b E e).1,T.AO.keeps λb E e=>(S.keep b E e).1,T.lim.keeps λb E e=>(S.keep b E e).1⟩
theorem LP(T:Top c w K W J mg mb)(S:St c w J F C o s.heap)(hg:X.globals=mB)(hb:X.builtins=qH)(hk:X.scope.kind=.function)(hx:X.kindOf x=some .globalImplicit)
  (e:W.glob x=some m):∃v,VR c w F C s.heap m v/\∀(Q:aw->aT->Prop) (au:aw->aT->Prop),Q v s->bo (bK c w.w) Y (loadName X x) Q au s:=by
 refine cf (T.ns S) λn1 n2 _=>?_
 rcases T.glob x m e with⟨v,h1,h2⟩|⟨h1,b,rfl,h2⟩
 .exact⟨v,h2.base S,λQ au q=>by rw [loadName_read hk hx];exact loadGlobal_global (by rw [hg];exact n1) h1 q⟩
 .exact⟨b.value,by rfl,λQ au q=>by rw [loadName_read hk hx];exact loadGlobal_builtin (by rw [hg];exact n1) h1 (by rw [hb];exact n2) h2 q⟩
noncomputable def CZ(W:bQ)(sc:G (ar×dc))(x:ar):Slot->Prop
 |.loc j=>∃k,(k=.local\/k=.cell)/\idxOf sc x 0=some (j,k)
 |.glob v=>∃j,idxOf sc x 0=some (j,.globalImplicit)/\W.glob x=some v
 |.bad=>jz
 |_=>dP
theorem LO{P:Slot->Prop}:P .bad->(∀v,E=some v->P (.glob v))->P (match E with|some v=>.glob v|.none=>.bad):=by
 intro b h
 cases E with
 |none=>exact b
 |some v=>exact h v rfl
theorem BO(W:bQ)(sc:G (ar×dc))(x:ar):CZ W sc x (slotIn W sc x):=by
 unfold slotIn
 cases hi:idxOf sc x 0 with
 |none=>trivial
 |some p=>
  obtain⟨j,k⟩:=p
  cases k with
  |«local»=>exact⟨_,.inl rfl,hi⟩
  |cell=>exact⟨_,.inr rfl,hi⟩
  |globalImplicit=>exact LO (P:=CZ W sc x) trivial λv h=>⟨j,hi,h⟩
  |_=>trivial
noncomputable def CY(W:bQ)(sc cB:G (ar×dc))(x:ar):Slot->Prop
 |.jT j=>idxOf cB x 0=some (j,.local)
 |.free j=>∃i,idxOf cB x 0=some (i,.free)/\idxOf sc x 0=some (j,.cell)
 |.glob v=>∃j,idxOf cB x 0=some (j,.globalImplicit)/\W.glob x=some v
 |.bad=>jz
 |.loc _=>dP
theorem BN(W:bQ)(sc cB:G (ar×dc))(x:ar):CY W sc cB x (vR W sc cB x):=by
 unfold vR
 cases hi:idxOf cB x 0 with
 |none=>trivial
 |some p=>
  obtain⟨j,k⟩:=p
  cases k with
  |«local»=>exact hi
  |free=>
   dsimp only
   cases hj:idxOf sc x 0 with
   |none=>trivial
   |some p=>
    obtain⟨j',k⟩:=p
    cases k with
    |cell=>exact⟨j,hi,hj⟩
    |_=>trivial
  |globalImplicit=>exact LO (P:=CY W sc cB x) trivial λv h=>⟨j,hi,h⟩
  |_=>trivial
noncomputable abbrev zy(c:a_)(w:WB)(Y:bG)(F C:G aA)(s:aT)(X:cK)(x:ar)(m:D):Prop:=
 ∃v,VR c w F C s.heap m v/\∀(Q:aw->aT->Prop) (au:aw->aT->Prop),Q v s->bo (bK c w.w) Y (loadName X x) Q au s
theorem Na{sc:G (ar×dc)}{vars:G (aa D)}(gk:X.scope.kind=.function)(az:pd c w F C s.heap sc vars X.locals)(i1:sc[j]?=some (x,.local))(hk:X.kindOf x=some .local)(q:kN (fJ vars j)=some m):zy c w Y F C s X x m:=by
 have q:=AX q
 rw [oN] at q
 refine ay az λmm hn hv=>?_
 refine ay (hv j x m i1 q) λv e1 e2=>?_
 exact⟨v,e2,λQ au z=>wpAny_loadName_local gk hk hn e1 z⟩
theorem Km{vars:G (aa D)}{j:H}(gk:X.scope.kind=.function)(az:nU c w F C s.heap vars X j x)(hk:X.kindOf x=some .cell)(q:kN (fJ vars j)=some m):zy c w Y F C s X x m:=by
 have q:=AX q
 rw [oN] at q
 refine eK az λI ov c1 c2 c4 c5=>?_
 refine ay (c5 m q) λv aI e2=>?_;subst aI
 exact⟨v,e2,λQ au z=>wpAny_loadName_cell gk hk c1 c2 z⟩
theorem dm.kindAt(az:dm c w F C h sc vars X)(hi:idxOf sc x 0=some (j,k)):X.kindOf x=some k:=by unfold y8;rw [az.names];exact(jZ hi).2
theorem dm.reads(T:Top c w K W J mg mb)(S:St c w J F C o s.heap)(az:dm c w F C s.heap sc vars X){sl:Slot}
  (e:(match sl with|.loc k=>kN (fJ vars k)|.glob v=>some v|.jT k=>kN (fJ jU k)|.free k=>kN (fJ vars k)|.bad=>.none)=some m) (cP:CZ W sc x sl):zy c w Y F C s X x m:=by
 cases sl with
 |loc j=>
  refine ay cP λk hk hi=>?_
  have ks:=az.kindAt hi
  rcases hk with rfl|rfl
  .exact Na az.kind az.loc (jZ hi).1 ks e
  .exact Km az.kind (az.cell j x (jZ hi).1) ks e
 |glob v=>
  refine ay cP λj hi hg=>?_
  exact LP T S az.glob az.blt az.kind (az.kindAt hi) (hg.trans e)
 |bad=>nomatch e
 |jT=>exact cP.elim
 |free=>exact cP.elim
theorem mR.reads(T:Top c w K W J mg mb)(S:St c w J F C o s.heap)(az:mR c w F C s.heap sc cB vars jU X){sl:Slot}
  (e:(match sl with|.loc k=>kN (fJ vars k)|.glob v=>some v|.jT k=>kN (fJ jU k)|.free k=>kN (fJ vars k)|.bad=>.none)=some m) (cP:CY W sc cB x sl):zy c w Y F C s X x m:=by
 cases sl with
 |jT j=>exact Na az.kind az.loc (jZ cP).1 ((az.kinds j x _ cP).1 rfl) e
 |free j=>
  refine ay cP λi hi hj=>?_
  exact Km az.kind (az.cell j x (jZ hj).1 (jZ hi).2) ((az.kinds i x _ hi).2.2 rfl j hj) e
 |glob v=>
  refine ay cP λj hi hg=>?_
  exact LP T S az.glob az.blt az.kind ((az.kinds j x _ hi).2.1 rfl) (hg.trans e)
 |bad=>nomatch e
 |loc=>exact cP.elim
theorem Nv(T:Top c w K W J mg mb)(S:St c w J F C o s.heap)(az:cH c w F C s.heap cx fr X)(e:nameOf W cx fr x=some m):
  ∃v,VR c w F C s.heap m v/\∀(Q:aw->aT->Prop) (au:aw->aT->Prop),Q v s->bo (bK c w.w) Y (loadName X x) Q au s:=by
 unfold nameOf kQ at e
 unfold cH at az
 generalize hc:cx.comp=ax at e az
 cases ax with
 |none=>exact az.reads T S (jU:=fr.jU) e (BO W cx.sc x)
 |some cB=>exact az.reads T S e (BN W cx.sc cB x)
end
section
variable{c:a_}{w:WB}{F C:G aA}{s:aT}
theorem wU(e:pA a b=some k):∃x y,a=some x/\b=some y/\k=(x&&y):=by
 cases a with
 |none=>exact aB e
 |some x=>cases b with
  |none=>exact aB e
  |some y=>cases e;exact⟨x,y,rfl,rfl,rfl⟩
noncomputable def i8(B m:G D)(n:H):aa ah:=@b9 D (λ_=>G D->H->aa ah)
 (λm _=>@b9 D (λ_=>aa ah) (some true) (λ_ _ _=>some false) m)
 (λa _ hl m n=>@b9 D (λ_=>aa ah) (some false) (λb r _=>pA (gV a b n) (hl r n)) m) B m n
theorem Ba(B:G D)(b:D)(n:H):gV (.tup B) b n=uF (i8 B) b n:=by
 have key:∀B:G D,(λm n=>i8 B m n)=@D.rec_1 (λ_=>D->H->aa ah) (λ_=>G D->H->aa ah)
   Ee eqBool Ed eqStr (λ_ f=>uF f) (λ_ _ _=>.none) (λ_ _ _=>.none) (λ_ _ _=>.none) (λ_ _ _=>.none) (λ_ _ _ _ _=>.none) (λ_ _=>.none) (λ_ _ _=>.none)
   (λm _=>@b9 D (λ_=>aa ah) (some true) (λ_ _ _=>some false) m)
   (λ_ _ ha hl m n=>@b9 D (λ_=>aa ah) (some false) (λb r _=>pA (ha b n) (hl r n)) m) B:=by
  intro B
  induction B with
  |nil=>rfl
  |cons a B O=>
   funext m n
   refine(?_:@b9 D (λ_=>aa ah) (some false) (λb r _=>pA (gV a b n) (i8 B r n)) m=_)
   have:∀r n,i8 B r n=_:=λr n=>congrFun (congrFun O r) n
   simp only [this]
   rfl
 refine(?_:uF _ b n=_)
 rw [<-key]
theorem Ng(m:G D)(n:H):i8 [] m n=some m.isEmpty:=by cases m<;>rfl
theorem s7(a:D)(B m:G D)(n:H):i8 (a::B) m n=match m with|[]=>some false|b::r=>pA (gV a b n) (i8 B r n):=by cases m<;>rfl
noncomputable def isAtom:D->ah
 |.none=>true
 |.bool _=>true
 |.int _=>true
 |.str _=>true
 |_=>false
noncomputable def BX:aw->D
 |.none=>.none
 |.bool b=>.bool b
 |.int i _=>.int i
 |.str x _=>.str x
 |_=>.any
theorem r5{h:aP}{x:aw}(i:isAtom a=true)(v:VR c w F C h a x):BX x=a:=by
 cases a with
 |none=>exact cq BX (v:x=.none)
 |bool b=>exact cq BX (v:x=.bool b)
 |int=>exact bw v λ_ v=>v▸rfl
 |str=>exact bw v.1 λ_ v=>v▸rfl
 |_=>exact bz i
theorem aeY(v:VR c w F C h (.tup B) x):BX x=.any:=by
 refine dO v ?_;clear v;intro a V n bU _;subst bU
 rfl
theorem q_{h:aP}{x:aw}{P:Prop}(ha:isAtom a=true)(va:VR c w F C h a x)(vb:VR c w F C h (.tup B) x):P:=by
 rw [(r5 ha va).symm.trans (aeY vb)] at ha
 exact bz ha
theorem p9{a b:D}{n:H}{k:ah}(e:gV a b n=some k):isAtom a=true\/∃B,a=.tup B:=by
 cases a with
 |none=>exact .inl rfl
 |bool=>exact .inl rfl
 |int=>exact .inl rfl
 |str=>exact .inl rfl
 |tup B=>exact .inr ⟨B,rfl⟩
 |_=>exact aB e
theorem U8{f:G D->H->aa ah}{b:D}{n:H}{k:ah}(e:uF f b n=some k):(isAtom b=true/\k=false)\/∃m n',b=.tup m/\n=n'+1/\f m n'=some k:=by
 cases b with
 |none=>exact .inl ⟨rfl,(aM e).symm⟩
 |int=>exact .inl ⟨rfl,(aM e).symm⟩
 |str=>exact .inl ⟨rfl,(aM e).symm⟩
 |tup B=>cases n with
  |zero=>exact aB e
  |succ n=>exact .inr ⟨B,n,rfl,rfl,e⟩
 |_=>exact aB e
theorem o4(e:gV (.tup B) b n=some k):(isAtom b=true/\k=false)\/∃m n',b=.tup m/\n=n'+1/\i8 B m n'=some k:=U8 (Ba B b n▸e)
theorem PN(va:VR c w F C h (.tup B) (.ref a))(vb:VR c w F C h (.tup l') (.ref a)):∃V,aW c w F C h B V/\aW c w F C h l' V:=by
 refine gr.el va.gj λa1 V n1 q1 _ g1 x1=>?_
 refine gr.el vb.gj λa2 PL n2 q2 _ g2 x2=>?_
 rw [<-JR q1] at g1
 rw [<-JR q2,g1] at g2
 rw [(Data.seq.inj (cq Obj.data (aM g2))).1] at x1
 exact⟨_,x1,x2⟩
theorem Pl(va:VR c w F C h (.tup B) x):∃a,x=.ref a:=by
 refine dO va λa1 V n1 q1 _=>?_
 exact⟨a1,q1⟩
theorem J6{a:D}{n:H}(ha:isAtom a=true)(e:gV a a n=some k):k=true:=by
 cases a with
 |none=>exact(aM e).symm
 |bool I=>rw [<-aM e];cases I<;>rfl
 |int i=>rw [<-aM e];exact(jC i i).mpr rfl
 |str z=>rw [<-aM e];exact lV.mpr rfl
 |_=>exact bz ha
theorem MS{a b:D}{n:H}{k:ah}(ha:isAtom a=true)(e:gV a b n=some k):isAtom b=true\/∃B,b=.tup B:=by
 cases a with
 |none=>cases b<;>first|exact .inl rfl|exact .inr ⟨_,rfl⟩|exact aB e
 |bool I=>cases b<;>first|exact .inl rfl|exact aB e
 |int i=>cases b<;>first|exact .inl rfl|exact .inr ⟨_,rfl⟩|exact aB e
 |str z=>cases b<;>first|exact .inl rfl|exact .inr ⟨_,rfl⟩|exact aB e
 |_=>exact bz ha
theorem ac6{h:aP}(n:H):∀(a b:D) (k:ah) (x:aw),gV a b n=some k->VR c w F C h a x->VR c w F C h b x->k=true:=by
 induction n with
 |zero=>
  intro a b k x e va vb
  rcases p9 e with ha|⟨B,rfl⟩
  .rcases MS ha e with hb|⟨m,rfl⟩
   .rw [(r5 hb vb).symm.trans (r5 ha va)] at e;exact J6 ha e
   .exact q_ ha va vb
  .rcases o4 e with⟨hb,_⟩|⟨m,n',_,q,_⟩
   .exact q_ hb vb va
   .nomatch q
 |succ n O=>
  intro a b k x e va vb
  rcases p9 e with ha|⟨B,rfl⟩
  .rcases MS ha e with hb|⟨m,rfl⟩
   .rw [(r5 hb vb).symm.trans (r5 ha va)] at e;exact J6 ha e
   .exact q_ ha va vb
  .rcases o4 e with⟨hb,_⟩|⟨m,n',rfl,q,e⟩
   .exact q_ hb vb va
   .rw [<-lu q] at e
    refine bw (Pl va) λa1 aI=>?_;subst aI
    refine ay (PN va vb) λV x1 x2=>?_
    have key:∀(B m:G D) (V:G aw) (k:ah),i8 B m n=some k->aW c w F C h B V->aW c w F C h m V->k=true:=by
     intro B
     induction B with
     |nil=>
      intro m V k e x1 x2
      rw [x1.dW] at x2
      cases m with
      |nil=>exact(aM e).symm
      |cons b r=>obtain⟨v,r',q,_⟩:=x2.cj;nomatch q
     |cons I B fQ=>
      intro m V k e x1 x2
      refine dR.el x1.cj λv r aE y1 y2=>?_;subst aE
      rw [s7] at e
      cases m with
      |nil=>nomatch x2.dW
      |cons b m=>
       refine dR.el x2.cj λv' r' q z1 z2=>?_
       refine xA (qz q) λeJ aI=>?_;subst eJ;subst aI
       refine eO (wU e) λk1 k2 e1 e2 fV=>?_;rw [fV]
       rw [O _ _ _ _ e1 y1 z1,fQ _ _ _ e2 y2 z2];rfl
    exact key _ _ _ _ e x1 x2
theorem U_{h:aP}(n:H):∀(a a' b:D) (k k':ah) (x:aw),gV a b n=some k->gV a' b n=some k'->VR c w F C h a x->VR c w F C h a' x->k=k':=by
 have J7:∀{n:H} {a a' b:D} {k k':ah} {x:aw},isAtom a=true->isAtom a'=true->gV a b n=some k->gV a' b n=some k'->VR c w F C h a x->VR c w F C h a' x->k=k':=λha ny e e' va k7=>by
  rw [(r5 ha va).symm.trans (r5 ny k7)] at e
  exact aM (e.symm.trans e')
 induction n with
 |zero=>
  intro a a' b k k' x e e' va k7
  rcases p9 e with ha|⟨B,rfl⟩<;>rcases p9 e' with ny|⟨l',rfl⟩
  .exact J7 ha ny e e' va k7
  .exact q_ ha va k7
  .exact q_ ny k7 va
  .rcases o4 e with⟨_,rfl⟩|⟨m,n',_,q,_⟩
   .rcases o4 e' with⟨_,rfl⟩|⟨m,n',_,q,_⟩
    .rfl
    .nomatch q
   .nomatch q
 |succ n O=>
  intro a a' b k k' x e e' va k7
  rcases p9 e with ha|⟨B,rfl⟩<;>rcases p9 e' with ny|⟨l',rfl⟩
  .exact J7 ha ny e e' va k7
  .exact q_ ha va k7
  .exact q_ ny k7 va
  .have key:∀(B l' m:G D) (V:G aw) (k k':ah),i8 B m n=some k->i8 l' m n=some k'->aW c w F C h B V->aW c w F C h l' V->k=k':=by
    intro B
    induction B with
    |nil=>
     intro l' m V k k' e e' x1 x2
     rw [x1.dW] at x2
     cases l' with
     |nil=>exact aM (e.symm.trans e')
     |cons b r=>obtain⟨v,r',q,_⟩:=x2.cj;nomatch q
    |cons I B fQ=>
     intro l' m V k k' e e' x1 x2
     refine dR.el x1.cj λv r aE y1 y2=>?_;subst aE
     cases l' with
     |nil=>nomatch x2.dW
     |cons c' l'=>
      refine dR.el x2.cj λv' r' q z1 z2=>?_
      refine xA (qz q) λeJ aI=>?_;subst eJ;subst aI
      rw [s7] at e e'
      cases m with
      |nil=>exact aM (e.symm.trans e')
      |cons b m=>
       refine eO (wU e) λk1 k2 e1 e2 fV=>?_;rw [fV]
       refine eO (wU e') λagz agA Aa UA fV=>?_;rw [fV]
       rw [O _ _ _ _ _ _ e1 Aa y1 z1,fQ _ _ _ _ _ e2 UA y2 z2]
   rcases o4 e with⟨hb,rfl⟩|⟨m,n',rfl,q,e⟩
   .rcases o4 e' with⟨_,rfl⟩|⟨m,n',rfl,_,_⟩
    .rfl
    .exact bz hb
   .rcases o4 e' with⟨hb,_⟩|⟨m',agO,q',q2,e'⟩
    .exact bz hb
    .rw [<-lu q] at e
     rw [<-lu q2,<-D.Pm q'] at e'
     refine bw (Pl va) λa1 aI=>?_;subst aI
     refine ay (PN va k7) λV x1 x2=>?_
     exact key _ _ _ _ _ _ e e' x1 x2
theorem isTup{h:aP}{a:aA}(e:h.get? a=some (kX V n)):h.IsTuple a V:=⟨_,e,rfl,n,rfl⟩
theorem iJ{h:aP}{a:aA}(e:h.get? a=some (fT V n)):h.IsList a V:=⟨_,e,rfl,n,rfl⟩
theorem Va(i j:ba):eqZ i j=(i==j):=by
 by_cases q:i=j
 .rw [(jC i j).mpr q,q];simp
 .rw [mn.mpr q]
  cases e:eqZ i j with
  |false=>rfl
  |true=>exact bP ((jC i j).mp e) q
theorem ada(i j:ar):seq i j=(i==j):=by
 by_cases q:i=j
 .rw [lV.mpr q,q];simp
 .rw [mn.mpr q]
  cases e:seq i j with
  |false=>rfl
  |true=>exact bP (lV.mp e) q
theorem Nh{Y:bG}{n:H}(O:∀(a b:D) (k:ah) (x y:aw),gV a b n=some k->VR c w F C s.heap a x->VR c w F C s.heap b y->EqAt Y.in1 s x y k):∀(B m:G D) (xs ys:G aw) (k:ah),i8 B m n=some k->aW c w F C s.heap B xs->aW c w F C s.heap m ys->
  ∃e:H->ah,(∀j (h1:j<xs.length) (h2:j<ys.length),EqAt Y.in1 s xs[j] ys[j] (e j))/\((fZ (min xs.length ys.length)).all e&&xs.length==ys.length)=k:=by
 intro B
 induction B with
 |nil=>
  intro m xs ys k e x1 x2
  rw [x1.dW]
  refine⟨λ_=>true,λj h1=>bP h1 (zq _),?_⟩
  rw [Ng] at e
  rw [<-aM e]
  cases m with
  |nil=>rw [x2.dW];rfl
  |cons b r=>obtain⟨v,r',rfl,_⟩:=x2.cj;rfl
 |cons I B fQ=>
  intro m xs ys k e x1 x2
  refine dR.el x1.cj λv r aE y1 y2=>?_;subst aE
  rw [s7] at e
  cases m with
  |nil=>rw [x2.dW,<-aM e];exact⟨λ_=>true,λj _ h2=>bP h2 (zq _),rfl⟩
  |cons b m=>
   refine dR.el x2.cj λv' r' aE z1 z2=>?_;rw [aE]
   refine eO (wU e) λk1 k2 e1 e2 fV=>?_;rw [fV]
   refine ay (fQ _ _ _ _ e2 y2 z2) λf f1 f2=>?_
   refine⟨λj=>match j with|0=>k1|j+1=>f j,λj h1 h2=>?_,?_⟩
   .cases j with
    |zero=>exact O _ _ _ _ _ e1 y1 z1
    |succ j=>exact f1 j (Jy h1) (Jy h2)
   .rw [<-f2]
    simp only [iQ,Nat.succ_min_succ,List.range_succ_eq_map,Qz,List.all_map]
    have hb:((r.length+1:H)==r'.length+1)=(r.length==r'.length):=by
     by_cases q:r.length=r'.length
     .rw [q];simp
     .rw [mn.mpr q,mn.mpr λz=>q (lu z)]
    rw [hb,IZ]
    rfl
noncomputable def tS(Y:bG)(s:aT)(x y:aw)(k:ah):Prop:=(RcAt Y s x y k/\EqAt Y s x y k)/\RcNeAt Y s x y (!k)
theorem Ij{Y:bG}(hu:Y.units<fP){B:G D}{b:D}{x y:aw}{n:H}{k:ah}(hb:isAtom b=true)(e:gV (.tup B) b n=some k)(va:VR c w F C s.heap (.tup B) x)(vb:VR c w F C s.heap b y):tS Y s x y k:=by
 rw [Ba] at e
 refine gr.el va.gj λa V _ bU _ g _=>?_;rw [bU]
 have g:=isTup g
 cases b with
 |none=>obtain rfl:y=.none:=vb;rw [<-aM e];exact⟨⟨RcAt.tuple_none g hu,EqAt.tuple_none g hu⟩,RcNeAt.tuple_none g hu⟩
 |str z=>obtain⟨⟨t,rfl⟩,_⟩:(∃t,y=.str z t)/\_:=vb;rw [<-aM e];exact⟨⟨RcAt.tuple_str _ _ g hu,EqAt.tuple_str _ _ g hu⟩,RcNeAt.tuple_str _ _ g hu⟩
 |int z=>obtain⟨t,rfl⟩:∃t,y=.int z t:=vb;rw [<-aM e];exact⟨⟨RcAt.tuple_int _ _ g hu,EqAt.tuple_int _ _ g hu⟩,RcNeAt.tuple_int _ _ g hu⟩
 |bool=>exact aB e
 |_=>exact bz hb
theorem aaD{Y:bG}(hu:Y.units<fP){b:D}{y:aw}{n:H}{k:ah}(e:Ee b n=some k)(vb:VR c w F C s.heap b y):tS Y s .none y k:=by
 cases b with
 |none=>obtain rfl:y=.none:=vb;rw [<-aM e];exact⟨⟨RcAt.none_none,EqAt.same _⟩,RcNeAt.none_none⟩
 |str z=>obtain⟨⟨t,rfl⟩,_⟩:(∃t,y=.str z t)/\_:=vb;rw [<-aM e];exact⟨⟨RcAt.none_str _ _,EqAt.none_str _ _⟩,RcNeAt.none_str _ _⟩
 |int z=>obtain⟨t,rfl⟩:∃t,y=.int z t:=vb;rw [<-aM e];exact⟨⟨RcAt.none_int _ _,EqAt.none_int _ _⟩,RcNeAt.none_int _ _⟩
 |tup B=>obtain⟨b,V,n,rfl,_,g,_⟩:=vb.gj;rw [<-aM e];exact⟨⟨RcAt.none_tuple (isTup g) hu,EqAt.none_tuple (isTup g) hu⟩,RcNeAt.none_tuple (isTup g) hu⟩
 |_=>exact aB e
theorem Tg{Y:bG}{I:ah}{b:D}{y:aw}{n:H}{k:ah}(e:eqBool I b n=some k)(vb:VR c w F C s.heap b y):tS Y s (.bool I) y k:=by
 cases b with
 |bool d=>
  obtain rfl:y=.bool d:=vb
  have:(!(qt I d))=(I==d):=by cases I<;>cases d<;>rfl
  rw [<-aM e,this];exact⟨⟨RcAt.bool_bool _ _,EqAt.bool_bool _ _⟩,RcNeAt.bool_bool _ _⟩
 |_=>exact aB e
theorem XT{Y:bG}(hu:Y.units<fP){i:ba}{t:Tok}{b:D}{y:aw}{n:H}{k:ah}(e:Ed i b n=some k)(vb:VR c w F C s.heap b y):tS Y s (.int i t) y k:=by
 cases b with
 |none=>obtain rfl:y=.none:=vb;rw [<-aM e];exact⟨⟨RcAt.int_none _ _,EqAt.int_none _ _⟩,RcNeAt.int_none _ _⟩
 |str z=>obtain⟨⟨t,rfl⟩,_⟩:(∃t,y=.str z t)/\_:=vb;rw [<-aM e];exact⟨⟨RcAt.int_str _ _ _ _,EqAt.int_str _ _ _ _⟩,RcNeAt.int_str _ _ _ _⟩
 |int z=>obtain⟨t,rfl⟩:∃t,y=.int z t:=vb;rw [<-aM e,Va];exact⟨⟨RcAt.int_int _ _ _ _,EqAt.int_int _ _ _ _⟩,RcNeAt.int_int _ _ _ _⟩
 |tup B=>obtain⟨b,V,n,rfl,_,g,_⟩:=vb.gj;rw [<-aM e];exact⟨⟨RcAt.int_tuple _ _ (isTup g) hu,EqAt.int_tuple _ _ (isTup g) hu⟩,RcNeAt.int_tuple _ _ (isTup g) hu⟩
 |_=>exact aB e
theorem ad5{Y:bG}(hu:Y.units<fP){i:ar}{t:Tok}{b:D}{y:aw}{n:H}{k:ah}(e:eqStr i b n=some k)(vb:VR c w F C s.heap b y):tS Y s (.str i t) y k:=by
 cases b with
 |none=>obtain rfl:y=.none:=vb;rw [<-aM e];exact⟨⟨RcAt.str_none _ _,EqAt.str_none _ _⟩,RcNeAt.str_none _ _⟩
 |str z=>obtain⟨⟨t,rfl⟩,_⟩:(∃t,y=.str z t)/\_:=vb;rw [<-aM e,ada];exact⟨⟨RcAt.str_str _ _ _ _,EqAt.str_str _ _ _ _⟩,RcNeAt.str_str _ _ _ _⟩
 |int z=>obtain⟨t,rfl⟩:∃t,y=.int z t:=vb;rw [<-aM e];exact⟨⟨RcAt.str_int _ _ _ _,EqAt.str_int _ _ _ _⟩,RcNeAt.str_int _ _ _ _⟩
 |tup B=>obtain⟨b,V,n,rfl,_,g,_⟩:=vb.gj;rw [<-aM e];exact⟨⟨RcAt.str_tuple _ _ (isTup g) hu,EqAt.str_tuple _ _ (isTup g) hu⟩,RcNeAt.str_tuple _ _ (isTup g) hu⟩
 |_=>exact aB e
theorem Dj{Y:bG}(hu:Y.units<fP){a b:D}(ha:isAtom a=true)(e:gV a b n=some k)(va:VR c w F C s.heap a x)(vb:VR c w F C s.heap b y):tS Y s x y k:=by
 cases a with
 |none=>obtain rfl:x=.none:=va;exact aaD hu e vb
 |bool I=>obtain rfl:x=.bool I:=va;exact Tg e vb
 |int i=>obtain⟨t,rfl⟩:∃t,x=.int i t:=va;exact XT hu e vb
 |str z=>obtain⟨⟨t,rfl⟩,_⟩:(∃t,x=.str z t)/\_:=va;exact ad5 hu e vb
 |_=>exact bz ha
theorem Ab(n:H):∀(Y:bG) (a b:D) (k:ah) (x y:aw),gV a b n=some k->VR c w F C s.heap a x->VR c w F C s.heap b y->Y.units+n+1<fP->RcAt Y s x y k/\EqAt Y s x y k:=by
 induction n with
 |zero=>
  intro Y a b k x y e va vb hu
  have hu:Y.units<fP:=Nat.lt_of_succ_lt hu
  rcases p9 e with ha|⟨B,rfl⟩
  .exact(Dj hu ha e va vb).1
  .rcases o4 e with⟨hb,_⟩|⟨m,n',_,q,_⟩
   .exact(Ij hu hb e va vb).1
   .nomatch q
 |succ n O=>
  intro Y a b k x y e va vb hu
  have hI:Y.units<fP:=by omega
  rcases p9 e with ha|⟨B,rfl⟩
  .exact(Dj hI ha e va vb).1
  .rcases o4 e with⟨hb,_⟩|⟨m,n',rfl,q,e'⟩
   .exact(Ij hI hb e va vb).1
   .rw [<-lu q] at e'
    have Xv:=va
    have Xx:=vb
    refine gr.el va.gj λa1 V n1 bU _ g1 x1=>?_;subst bU
    refine gr.el vb.gj λa2 ws n2 bU _ g2 x2=>?_;subst bU
    refine ay (Nh (Y:=Y) (λa b k x y e va vb=>(O Y.in1 a b k x y e va vb (by show Y.units+1+n+1<fP;omega)).2) _ _ _ _ _ e' x1 x2) λf f1 f2=>?_
    have rc:RcAt Y s (.ref a1) (.ref a2) k:=by
     have:=RcAt.tuples (A:=Y) (e:=f) (isTup g1) (isTup g2) hI (λj h1 h2=>by have z:=f1 j (by simpa using h1) (by simpa using h2);simp only [P_] at z;exact z)
     rw [<-f2]
     simpa using this
    refine⟨rc,?_⟩
    by_cases q:a1=a2
    .subst q
     rw [ac6 (n+1) (.tup B) (.tup m) k _ e Xv Xx]
     exact EqAt.same _
    .exact EqAt.of_refs q rc
theorem Zg(n:H)(Y:bG)(B m:G D)(xs ys:G aw)(k:ah)(e:i8 B m n=some k)(x1:aW c w F C s.heap B xs)(x2:aW c w F C s.heap m ys)(hu:Y.units+n+2<fP):
  ∃e:H->ah,(∀j (h1:j<xs.length) (h2:j<ys.length),EqAt Y.in1 s xs[j] ys[j] (e j))/\((fZ (min xs.length ys.length)).all e&&xs.length==ys.length)=k:=
 Nh (λa b k x y e va vb=>(Ab n Y.in1 a b k x y e va vb (by show Y.units+1+n+1<fP;omega)).2) _ _ _ _ _ e x1 x2
end
section
variable{c:a_}{w:WB}{F C:G aA}{s:aT}{Y:bG}
theorem aan(e:gV a b n=some k)(va:VR c w F C s.heap a x)(vb:VR c w F C s.heap b y)(hu:Y.units+n+1<fP):RcNeAt Y s x y (!k):=by
 have hI:Y.units<fP:=by lia
 rcases p9 e with ha|⟨B,rfl⟩
 .exact(Dj hI ha e va vb).2
 .rcases o4 e with⟨hb,_⟩|⟨m,n',rfl,rfl,e'⟩
  .exact(Ij hI hb e va vb).2
  .refine gr.el va.gj λa V n1 bU _ g x1=>?_;rw [bU]
   refine gr.el vb.gj λb ws n2 bU _ g2 x2=>?_;rw [bU]
   refine ay (Zg n' Y B m _ _ k e' x1 x2 (by assumption)) λf f1 f2=>?_
   rw [<-f2]
   simpa using RcNeAt.tuples (A:=Y) (e:=f) (isTup g) (isTup g2) hI (λj h1 h2=>by have z:=f1 j (by simpa using h1) (by simpa using h2);simp only [P_] at z;exact z)
end
section
variable{c:a_}{w:WB}{F C:G aA}{J h:aP}{o:MH}
inductive LstAt(c:a_)(w:WB)(F C:G aA)(h:aP)(p:H×G D)(x:aw):Prop
 |mk (ad:aA) (V:dS aw) (n:H):x=.ref ad->h.get? ad=some (fT V n)->aW c w F C h p.2 V.toList.reverse->p.2.length<=p.1->p.1<=4096->LstAt c w F C h p x
theorem LstAt.el{az:Prop}(z:LstAt c w F C h p x)(k:∀ad V n,x=.ref ad->h.get? ad=some (fT V n)->aW c w F C h p.2 V.toList.reverse->p.2.length<=p.1->p.1<=4096->az):az:=z.casesOn k
inductive Jb(c:a_)(w:WB)(F C:G aA)(h:aP)(B:G D)(x:aw):Prop
 |mk (ad:aA) (V:dS aw) (n:H):x=.ref ad->(h.get? ad=some (kX V n)\/h.get? ad=some (fT V n))->aW c w F C h B V.toList->Jb c w F C h B x
theorem nF(S:St c w J F C o h)(e:eV o a=some p)(va:VR c w F C h a x):LstAt c w F C h p x:=by
 unfold eV at e
 cases a with
 |ref i=>
  refine ay va ?_;clear va;intro ad e1 aE;subst aE
  refine ay (S.at_ i ad e1) λE e2 r=>?_
  dsimp only at e
  rw [e2] at e
  cases E with
  |list b r'=>cases e;obtain⟨V,n,g,y,z⟩:=r;exact⟨ad,V,n,rfl,g,y,z.1,z.2⟩
  |_=>exact aB e
 |aD k B=>
  cases k with
  |list b=>
   cases e
   refine dO va λad V n bU bB=>eN bB λ_ g y dA=>xA dA λz t=>?_;rw [bU]
   refine⟨ad,V,n,rfl,g,?_,?_,z⟩
   .rw [fD];exact t.reverse
   .rw [fD,ez];exact y
  |_=>exact aB e
 |_=>exact aB e
theorem Fv(S:St c w J F C o h)(e:itemsOf o a=some B)(va:VR c w F C h a x):Jb c w F C h B x:=by
 unfold itemsOf at e
 cases a with
 |tup l'=>cases e;obtain⟨ad,V,n,rfl,_,g,y⟩:=va.gj;exact⟨ad,V,n,rfl,.inl g,y⟩
 |ref i=>
  refine ay va ?_;clear va;intro ad e1 aE;subst aE
  refine ay (S.at_ i ad e1) λE e2 r=>?_
  dsimp only [listAt] at e
  rw [e2] at e
  cases E with
  |list b r'=>cases e;obtain⟨V,n,g,y,z⟩:=r;exact⟨ad,V,n,rfl,.inr g,by rw [fD];simpa using y.reverse⟩
  |_=>exact aB e
 |aD k l'=>
  cases k with
  |list b=>
   cases e
   refine dO va λad V n bU bB=>eN bB λ_ g y dA=>xA dA λz t=>?_;rw [bU]
   exact⟨ad,V,n,rfl,.inr g,t⟩
  |_=>exact aB e
 |_=>exact aB e
theorem agD(a:D)(x:ar):iz a (.str x)=true↔a=.str x:=by
 cases a with
 |str y=>show seq y x=true↔_;rw [lV];exact⟨cq _,D.str_inj⟩
 |_=>exact⟨λh=>mQ (h:false=true),λh=>nomatch h⟩
theorem agC(a:D)(x:ba):iz a (.int x)=true↔a=.int x:=by
 cases a with
 |int y=>show eqZ y x=true↔_;rw [jC];exact⟨cq _,λh=>D.noConfusion h id⟩
 |_=>exact⟨λh=>mQ (h:false=true),λh=>nomatch h⟩
theorem Ui(p:D×D)(R:G (D×D))(x:D):sm (p::R) x=if iz p.1 x=true then some p.2 else sm R x:=by
 refine(?_:@bN (λ_=>aa D) (sm R x) (some p.2) (iz p.1 x)=_)
 cases iz p.1 x<;>rfl
theorem rB{K:Type} [jw K]{key:K->D}(hk:∀a b,iz (key a) (key b)=decide (a=b))(k:K){aR:G (K×aw)}(u:Under P key R aR):
  (sm R (key k)=none/\k8 aR k=none)\/∃m v,sm R (key k)=some m/\k8 aR k=some v/\P m v:=by
 induction u with
 |nil=>exact .inl ⟨rfl,rfl⟩
 |@cons k' m v B r a b O=>
  rw [Ui,hk]
  have hv:k8 ((k',v)::r) k=if k'=k then some v else k8 r k:=by
   by_cases q:k'=k<;>simp [k8,q]
  rw [hv]
  by_cases q:k'=k
  .rw [bT q,ix q];exact .inr ⟨m,v,rfl,rfl,a⟩
  .rw [bk q,jf q];exact O
theorem oJ(a b:ar):iz (.str a) (.str b)=decide (a=b):=by show seq a b=_;exact seq_eq a b
theorem sV(a b:ba):iz (.int a) (.int b)=decide (a=b):=by show eqZ a b=_;exact eqZ_eq a b
end
section
variable{c:a_}{w:WB}{Y:bG}{own F C:G aA}{s:aT}{α:Type}{J:aP}{o:MH}{K:b8}{W:bQ}{mg mb:ar->aa aw}
theorem bc.gI(x:∀(Q:α->aT->Prop) (au:aw->aT->Prop),Q a s->bo (bK c w.w) Y t Q au s):bc c w Y own C s t (Gives s C a):=λQ au k=>
 x Q au (k a C s.heap s.toks (.refl ..) ⟨rfl,rfl,rfl⟩)
theorem bc.Ol(x:∀(Q:α->aT->Prop) (au:aw->aT->Prop),Q a {s with toks:=s.toks+n}->bo (bK c w.w) Y t Q au s):bc c w Y own C s t (Gives s C a):=λQ au k=>
 x Q au (k a C s.heap (s.toks+n) (.refl ..) ⟨rfl,rfl,rfl⟩)
theorem bc.agm(x:bc c w Y own C s t (Gives s C a))
  (y:∀tk,bc c w Y own C {s with toks:=tk} (f a) P):bc c w Y own C s (t>>=f) P:=x.bind λa' ao M tk st p=>by
 refine cf p ?_;clear p;intro eJ aI aE;obtain rfl:=eJ.symm;rw [aI];rw [aE]
 exact y tk
theorem tL(T:Top c w K W J mg mb)(S:St c w J F C o s.heap){i:H}(e:C[i]?=some a):(a==tK)=false:=by
 refine mn.mpr λq=>?_
 refine bw T.sys λE ho=>?_
 exact(S.keep _ E ho).2 (q▸dy e)
theorem sh{L gL:Type} [jw L] [jw gL]{k1:KeyKind c w.w L}{k2:KeyKind c w.w gL}{h:aP}(x:h.DictOf k1 a []):h.DictOf k2 a []:=by
 refine dO x λE R ep ho bB=>eN bB λhx hd hk dA=>xA dA λhp hn=>?_
 have he:R=#[]:=by
  apply Array.ext'
  generalize q:R.toList=ax at hp
  cases ax with
  |nil=>rfl
  |cons e r=>cases hp
 subst he
 exact⟨E,#[],ep,ho,hx,hd,λe he=>by simp at he,.nil,rO⟩
theorem xW(p:D×D)(R:G (D×D))(x:D)(e:keysOk (p::R) x=true):BC p.1 x=true/\keysOk R x=true:=by
 have e':@bN (λ_=>ah) false (keysOk R x) (BC p.1 x)=true:=e
 generalize q:BC p.1 x=ax at e'
 cases ax with
 |false=>exact bz e'
 |true=>exact⟨rfl,e'⟩
theorem vc:∀(R:G (D×D)) (x:D),keysOk R x=true->isKey x=true
 |[],x,e=>e
 |p::R,x,e=>vc R x (xW p R x e).2
theorem tJ{h:aP}{a:aA}{R:G (D×D)}(E:OR c w F C h a (.dict R))(e:keysOk R (.str x)=true):
  ∃aR,h.DictOf (strKind c w.w) a aR/\Under (VR c w F C h) D.str R aR/\(∀p∈aR,g8 p.1=true)/\R.length<=4096:=by
 obtain⟨⟨aR,d,u,q⟩|⟨aR,d,u⟩,B⟩:=E
 .exact⟨aR,d,u,q,B⟩
 .cases u with
  |nil=>exact⟨[],sh d,.nil,λ_ h=>(nomatch h),B⟩
  |cons a b=>exact bP (xW _ _ _ e).1 (λh=>nomatch (h:false=true))
theorem xQ{h:aP}{a:aA}{R:G (D×D)}(E:OR c w F C h a (.dict R))(e:keysOk R (.int x)=true):
  ∃aR,h.DictOf (lE c w.w) a aR/\Under (VR c w F C h) D.int R aR/\R.length<=4096:=by
 obtain⟨⟨aR,d,u,q⟩|⟨aR,d,u⟩,B⟩:=E
 .cases u with
  |nil=>exact⟨[],sh d,.nil,B⟩
  |cons a b=>exact bP (xW _ _ _ e).1 (λh=>nomatch (h:false=true))
 .exact⟨aR,d,u,B⟩
theorem Vs(k:ar)(ks:G ar)(v:D)(B:G D)(x:ar):pK (k::ks) (v::B) x=match pK ks B x with|some r=>(if k=x then some (some v) else some r)|none=>none:=by
 refine(?_:(match pK ks B x with|some r=>@bN (λ_=>aa (aa D)) (some r) (some (some v)) (seq k x)|none=>none)=_)
 rw [seq_eq]
 cases pK ks B x with
 |none=>rfl
 |some r=>by_cases q:k=x<;>simp [q]
theorem Lx:∀{B:G D} {V:G aw} {q:aa D},pK ks B x=some q->aW c w F C h B V->
  (q=none/\k8 (ks.zip V) x=none)\/∃m u,q=some m/\k8 (ks.zip V) x=some u/\VR c w F C h m u:=by
 induction ks with
 |nil=>
  intro B V q e y
  cases B with
  |nil=>exact .inl ⟨(aM e).symm,rfl⟩
  |cons=>exact aB e
 |cons k ks O=>
  intro B V q e y
  cases B with
  |nil=>exact aB e
  |cons m B=>
   refine dR.el y.cj λv r aE y1 y2=>?_;subst aE
   rw [Vs] at e
   generalize e1:pK ks B x=ax at e
   cases ax with
   |none=>exact aB e
   |some r'=>
    have e:(if k=x then some (some m) else some r')=some q:=e
    have hv:k8 ((k,v)::ks.zip r) x=if k=x then some v else k8 (ks.zip r) x:=by
     by_cases z:k=x<;>simp [k8,z]
    rw [show k8 ((k::ks).zip (v::r)) x=_ from hv]
    by_cases z:k=x
    .rw [bT z] at e⊢
     exact .inr ⟨m,v,(aM e).symm,rfl,y1⟩
    .rw [bk z] at e⊢
     exact aM e▸O e1 y2
theorem uB(S:St c w J F C o s.heap)(e:dictAt o i=some R)(v:VR c w F C s.heap (.ref i) d):∃a,C[i]?=some a/\d=.ref a/\OR c w F C s.heap a (.dict R)/\o.t.get i=some (.dict R):=by
 refine ay v ?_;clear v;intro a e1 aE;subst aE
 refine ay (S.at_ i a e1) λE e2 r=>?_
 unfold dictAt at e
 rw [e2] at e
 cases E with
 |dict B=>cases e;exact⟨a,e1,rfl,r,e2⟩
 |_=>exact aB e
theorem xh(e:ih R x=some q):keysOk R x=true/\sm R x=q:=by
 unfold ih at e
 generalize z:keysOk R x=ax at e
 cases ax with
 |true=>cases e;exact⟨rfl,rfl⟩
 |false=>exact aB e
inductive I3(c:a_)(w:WB)(F C:G aA)(h:aP)(q:aa D)(d kx:aw):Prop
 |mk (a:aA) (L:Type) (dl:jw L) (fS:KeyKind c w.w L) (aR:G (L×aw)) (k:L):d=.ref a->(a==tK)=false->fS.is k kx=true->h.DictOf fS a aR->
   ((q=none/\k8 aR k=none)\/∃m u,q=some m/\k8 aR k=some u/\VR c w F C h m u)->I3 c w F C h q d kx
theorem DV(T:Top c w K W J mg mb)(S:St c w J F C o s.heap){v x:D}(e:dictGet o v x=some q)(vd:VR c w F C s.heap v d)(vx:VR c w F C s.heap x kx):
  I3 c w F C s.heap q d kx:=by
 unfold dictGet at e
 cases v with
 |ref i=>
  dsimp only at e
  generalize e1:dictAt o i=ax at e
  cases ax with
  |none=>exact aB e
  |some R=>
   refine iZ (uB S e1 vd) λa p1 aE E _=>?_;subst aE
   refine xA (xh e) λk1 aI=>?_;subst aI
   have kk:=vc _ _ k1
   have ns:=tL T S p1
   cases x with
   |str z=>
    obtain⟨⟨t,rfl⟩,_⟩:=vx
    refine fM (tJ E k1) λaR d1 u _=>?_
    exact⟨a,ar,Mu,strKind c w.w,aR,z,rfl,ns,by simp [gE,mY],d1,rB oJ z u⟩
   |int z=>
    refine bw vx ?_;clear vx;intro t aI;subst aI
    refine fM (xQ E k1) λaR d1 u _=>?_
    exact⟨a,ba,Mu,lE c w.w,aR,z,rfl,ns,by simp [lE,zC],d1,rB sV z u⟩
   |_=>exact bz kk
 |aD k B=>
  cases k with
  |dict ks=>
   dsimp only [Af] at e
   refine eK vd λa V aE _ ns bB=>cf bB λd1 _ y=>?_;subst aE
   cases x with
   |str z=>
    obtain⟨⟨t,rfl⟩,_⟩:=vx
    exact⟨a,ar,Mu,strKind c w.w,_,z,rfl,ns,by simp [gE,mY],d1,Lx e y⟩
   |_=>exact aB e
  |_=>exact aB e
 |_=>exact aB e
theorem abe(e:GS a b=some k):∃x y,a=some x/\b=some y/\k=(x||y):=by
 cases a with
 |none=>exact aB e
 |some x=>cases b with
  |none=>exact aB e
  |some y=>cases e;exact⟨x,y,rfl,rfl,rfl⟩
open Classical in
theorem Sq{α:Type}{f g:α->ah}{r:G α}(h:∀y∈r,f y=g y):r.any f=r.any g:=by
 induction r with
 |nil=>rfl
 |cons a r O=>rw [qy,qy,h a (.head _),O λy hy=>h y (.tail _ hy)]
theorem aaa{v:D}{B:G D}:∀{xs:G aw} {k:ah},Bb v B=some k->aW c w F C s.heap B xs->
  ∃f:aw->ah,(∀y∈xs,∃m,VR c w F C s.heap m y/\q7 m v=some (f y))/\xs.any f=k:=by
 induction B with
 |nil=>exact λe y=>⟨λ_=>false,λ_ h=>(nomatch (y.dW▸h:_∈[])),by rw [y.dW];exact aM e⟩
 |cons m B O=>
  intro xs k e y
  refine dR.el y.cj λu r aE y1 y2=>?_;rw [aE]
  refine eO (abe (e:GS (q7 m v) (Bb v B)=some k)) λk1 k2 e1 e2 fV=>?_;rw [fV]
  refine ay (O e2 y2) λf f1 f2=>?_
  by_cases z:u∈r
  .refine ay (f1 u z) λm' v' e'=>?_
   refine⟨f,λy hy=>?_,?_⟩
   .refine dC (bY.mp hy) (λrf=>?_) λhy=>?_
    .rw [rf];exact f1 _ z
    .exact f1 y hy
   .rw [qy,U_ 40 _ _ _ _ _ _ e1 e' y1 v',f2]
  .have cI:∀y∈r,(if y=u then k1 else f y)=f y:=λy hy=>bk λ(q:y=u)=>z (q▸hy)
   refine⟨λy=>if y=u then k1 else f y,λy hy=>?_,?_⟩
   .by_cases yu:y=u
    .exact⟨m,yu▸y1,e1.trans (cq some (bT yu).symm)⟩
    .refine ay (f1 y ((bY.mp hy).resolve_left yu)) λa b I=>?_
     exact⟨a,b,I.trans (cq some (bk yu).symm)⟩
   .rw [qy,bT rfl,<-f2,Sq cI]
theorem aab(hu:Y.units+60<fP)(vx:VR c w F C s.heap v x)(e:Bb v B=some k)(y:aW c w F C s.heap B xs):
  ∃f:aw->ah,(∀y∈xs,EqAt Y.in1 s y x (f y))/\xs.any f=k:=by
 refine ay (aaa e y) λf f1 f2=>?_
 refine⟨f,λy hy=>?_,f2⟩
 refine ay (f1 y hy) λm v1 e1=>?_
 exact(Ab 40 Y.in1 m v (f y) y x e1 v1 vx (by show Y.units+1+40+1<fP;lia)).2
theorem agn(h:bc c w Y own C s x (Gives s C a))(e:a=b):bc c w Y own C s x (Gives s C b):=e▸h
theorem Ms(T:Top c w K W J mg mb)(S:St c w J F C o s.heap)(hu:Y.units+60<fP)(e:AP o v b=some k)(vx:VR c w F C s.heap v x)(vy:VR c w F C s.heap b y):
  bc c w Y own C s (iq .In x y) (Gives s C (.bool k))/\bc c w Y own C s (iq .NotIn x y) (Gives s C (.bool (!k))):=by
 unfold AP at e
 generalize e1:itemsOf o b=ax at e
 cases ax with
 |some B=>
  obtain⟨ad,V,n,rfl,g,yl⟩:=Fv S e1 vy
  refine ay (aab hu vx e yl) λf f1 f2=>?_
  have fa:∀y,y∈V->EqAt Y.in1 s y x (f y):=λy hy=>f1 y (Ce.mpr hy)
  have fk:V.any f=k:=by rw [<-f2,P9]
  refine dC g ?_ ?_<;>clear g<;>intro g
  .exact⟨.gI λQ au q=>in_tupleAt f (isTup g) fa (fk▸q),.gI λQ au q=>notIn_tupleAt f (isTup g) fa (fk▸q)⟩
  .exact⟨.gI λQ au q=>in_listAt f (iJ g) fa (fk▸q),.gI λQ au q=>notIn_listAt f (iJ g) fa (fk▸q)⟩
 |none=>
  dsimp only at e
  generalize e2:dictGet o b v=ax at e
  cases ax with
  |none=>exact aB e
  |some q=>
   cases e
   obtain⟨a,L,dl,fS,aR,key,rfl,ns,hk,hd,r⟩:=DV T S e2 vy vx
   have hs:(k8 aR key).isSome=cJ q:=by
    rcases r with⟨rfl,r⟩|⟨m,u,rfl,r,_⟩<;>rw [r]<;>rfl
   exact⟨.Ol (n:=1) λQ au z=>wpAny_in_of hk ns hd.mapOf (hs▸z),.Ol (n:=1) λQ au z=>wpAny_notIn_of hk ns hd.mapOf (hs▸z)⟩
end
section
variable{c:a_}{w:WB}{Y:bG}{own F C:G aA}{s:aT}{α:Type}{J:aP}{o:MH}{K:b8}{W:bQ}{mg mb:ar->aa aw}
theorem T2(y:G (D×D))(p:D×D)(x:G (D×D)):uA y (p::x)=match ih y p.1 with
  |some q=>match q with
   |some u=>pA (q7 p.2 u) (uA y x)
   |.none=>some false
  |.none=>.none:=rfl
theorem T3{L:Type} [jw L]{key:L->D}(hk:∀a b,iz (key a) (key b)=decide (a=b))(hu:Y.units+60<fP){kb:G (L×aw)}(uy:Under (VR c w F C s.heap) key y kb)
  {ka:G (L×aw)} (ux:Under (VR c w F C s.heap) key x ka):∀{r:ah},uA y x=some r->KeqHits Y s kb ka r:=by
 induction ux with
 |nil=>intro r e;cases e;exact .nil
 |@cons k m v B r' a b O=>
  intro r e
  rw [T2] at e
  dsimp only at e
  generalize e1:ih y (key k)=ax at e
  cases ax with
  |none=>exact aB e
  |some q=>
   refine xA (xh e1) λ_ e2=>?_
   rcases rB hk k uy with⟨z1,z2⟩|⟨m',v',z1,z2,z3⟩
   .rw [z1] at e2;obtain rfl:=e2.symm;cases e;exact .miss z2
   .rw [z1] at e2
    subst e2
    refine eO (wU (e:pA (q7 m m') (uA y B)=some r)) λk1 k2 e3 e4 fV=>?_;rw [fV]
    exact .hit z2 (Ab 40 Y m m' k1 v v' e3 a z3 (by lia)).2 (O e4)
theorem Ip{L:Type}{key:L->D}{ka:G (L×aw)}(u:Under P key (p::r) ka):∃k,p.1=key k:=by
 cases u with
 |cons a b=>exact⟨_,rfl⟩
theorem Ni(S:St c w J F C o s.heap)(hu:Y.units+60<fP)(e:A5 o a b=some k)(vx:VR c w F C s.heap a x)(vy:VR c w F C s.heap b y):
  bc c w Y own C s (iq .Eq x y) (Gives s C (.bool k))/\bc c w Y own C s (iq .NotEq x y) (Gives s C (.bool (!k))):=by
 have hI:Y.units<fP:=by lia
 unfold A5 at e
 cases e1:eV o a with
 |none=>rw [e1] at e;exact aB e
 |some p=>
  cases e2:eV o b with
  |none=>rw [e1] at e;dsimp only at e;rw [e2] at e;exact aB e
  |some q=>
   rw [e1] at e;dsimp only at e;rw [e2] at e
   obtain⟨a1,V,n,rfl,g1,y1,_⟩:=nF S e1 vx
   obtain⟨a2,ws,n2,rfl,g2,y2,_⟩:=nF S e2 vy
   have l1:=y1.length
   have l2:=y2.length
   rw [ez,hX] at l1 l2
   dsimp only [M7] at e
   cases q1:p.2 with
   |nil=>
    cases q2:q.2 with
    |nil=>
     rw [q1,q2] at e
     cases e
     rw [q1,rM] at l1
     rw [q2,rM] at l2
     have hh:∀j (h1:j<V.size) (h2:j<ws.size),EqAt Y.in1 s V[j] ws[j] ((λ_=>true) j):=λj h1=>by lia
     refine⟨.gI λQ au z=>RcAt.lists (iJ g1) (iJ g2) (l1.trans l2.symm) hI hh c w.w au Q (by rw [l1];exact z),.gI λQ au z=>RcNeAt.lists (iJ g1) (iJ g2) (l1.trans l2.symm) hI hh c w.w au Q (by rw [l1];exact z)⟩
    |cons I r=>
     rw [q1,q2] at e
     cases e
     rw [q1,rM] at l1
     rw [q2,iQ] at l2
     have hh:(V.size !=ws.size)=true:=by rw [l1,l2];rfl
     exact⟨.gI λQ au z=>RcAt.lists_lengths (iJ g1) (iJ g2) hh hI c w.w au Q z,.gI λQ au z=>RcNeAt.lists_lengths (iJ g1) (iJ g2) hh hI c w.w au Q z⟩
   |cons I r=>
    cases q2:q.2 with
    |nil=>
     rw [q1,q2] at e
     cases e
     rw [q1,iQ] at l1
     rw [q2,rM] at l2
     have hh:(V.size !=ws.size)=true:=by rw [l1,l2];rfl
     exact⟨.gI λQ au z=>RcAt.lists_lengths (iJ g1) (iJ g2) hh hI c w.w au Q z,.gI λQ au z=>RcNeAt.lists_lengths (iJ g1) (iJ g2) hh hI c w.w au Q z⟩
    |cons c' r'=>rw [q1,q2] at e;exact aB e
theorem Uc(T:Top c w K W J mg mb)(S:St c w J F C o s.heap)(hu:Y.units+61<fP){i j:H}{k:ah}(e1:dictAt o i=some x)(e2:dictAt o j=some y)
  (e:DU x y=some k) (vx:VR c w F C s.heap (.ref i) v) (vy:VR c w F C s.heap (.ref j) u):
  bc c w Y own C s (iq .Eq v u) (Gives s C (.bool k))/\bc c w Y own C s (iq .NotEq v u) (Gives s C (.bool (!k))):=by
 have hI:Y.units<fP:=by lia
 have Xt:Y.in1.units+60<fP:=by show Y.units+1+60<fP;assumption
 refine iZ (uB S e1 vx) λa p1 aE o1 _=>?_;rw [aE]
 refine iZ (uB S e2 vy) λb p2 aE o2 _=>?_;subst aE
 have n1:=tL T S p1
 have n2:=tL T S p2
 have apart:∀{L:Type} [jw L] (fS:KeyKind c w.w L) (ka kb:G (L×aw)),s.heap.DictOf fS a ka->s.heap.DictOf fS b kb->ka.length≠kb.length->
   bc c w Y own C s (iq .Eq (.ref a) (.ref b)) (Gives s C (.bool false))/\bc c w Y own C s (iq .NotEq (.ref a) (.ref b)) (Gives s C (.bool (!false))):=by
  intro L _ fS ka kb da db hl
  have z:(ka.length==kb.length&&true)=false:=by rw [mn.mpr hl];rfl
  exact⟨.gI λQ au q=>keq_eq (r:=true) n1 n2 da db hI (λh=>bP h hl) (by rw [z];exact q),.gI λQ au q=>keq_ne (r:=true) n1 n2 da db hI (λh=>bP h hl) (by rw [z];exact q)⟩
 have Dd:∀{L:Type} [jw L] (fS:KeyKind c w.w L) (key:L->D) (hk:∀a b,iz (key a) (key b)=decide (a=b)) (ka kb:G (L×aw)),s.heap.DictOf fS a ka->s.heap.DictOf fS b kb->
   Under (VR c w F C s.heap) key x ka->Under (VR c w F C s.heap) key y kb->x.length=y.length->uA y x=some k->bc c w Y own C s (iq .Eq (.ref a) (.ref b)) (Gives s C (.bool k))/\bc c w Y own C s (iq .NotEq (.ref a) (.ref b)) (Gives s C (.bool (!k))):=by
  intro L _ fS key hk ka kb da db ux uy hl e
  have Md:=T3 (Y:=Y.in1) hk Xt uy ux e
  have z:(ka.length==kb.length&&k)=k:=by rw [<-ux.length,<-uy.length,hl];simp
  exact⟨.gI λQ au q=>keq_eq n1 n2 da db hI (λ_=>Md) (by rw [z];exact q),.gI λQ au q=>keq_ne n1 n2 da db hI (λ_=>Md) (by rw [z];exact q)⟩
 cases x with
 |nil=>
  have da:∀{L:Type} [jw L] (fS:KeyKind c w.w L),s.heap.DictOf fS a []:=by
   intro L _ fS
   obtain⟨⟨ka,da,ux,_⟩|⟨ka,da,ux⟩,_⟩:=o1<;>cases ux<;>exact sh da
  cases y with
  |nil=>
   cases e
   have db:s.heap.DictOf (gE c w.w) b []:=by
    obtain⟨⟨kb,db,uy,_⟩|⟨kb,db,uy⟩,_⟩:=o2<;>cases uy<;>exact sh db
   exact Dd _ _ oJ [] [] (da _) db .nil .nil rfl rfl
  |cons p r=>
   cases e
   obtain⟨⟨kb,db,uy,_⟩|⟨kb,db,uy⟩,_⟩:=o2
   .exact apart _ [] kb (da _) db (by rw [<-uy.length];simp)
   .exact apart _ [] kb (da _) db (by rw [<-uy.length];simp)
 |cons p r=>
  dsimp only [DU] at e
  refine xA (bI e) λq e=>?_
  rw [MT.beq_eq] at e
  obtain⟨⟨ka,da,ux,_⟩|⟨ka,da,ux⟩,_⟩:=o1
  .refine bw (Ip ux) λkk uS=>?_
   rw [uS] at q
   refine fM (tJ o2 q) λkb db uy _=>?_
   by_cases hl:(p::r).length=y.length
   .rw [ix hl] at e;exact Dd _ _ oJ _ kb da db ux uy hl e
   .rw [jf hl] at e;cases e;exact apart _ _ kb da db (by rw [<-uy.length,<-ux.length];exact hl)
  .refine bw (Ip ux) λkk uS=>?_
   rw [uS] at q
   refine fM (xQ o2 q) λkb db uy _=>?_
   by_cases hl:(p::r).length=y.length
   .rw [ix hl] at e;exact Dd _ _ sV _ kb da db ux uy hl e
   .rw [jf hl] at e;cases e;exact apart _ _ kb da db (by rw [<-uy.length,<-ux.length];exact hl)
theorem Z_(hu:Y.units+60<fP)(e:q7 a b=some k)(vx:VR c w F C s.heap a x)(vy:VR c w F C s.heap b y):
  bc c w Y own C s (iq .Eq x y) (Gives s C (.bool k))/\bc c w Y own C s (iq .NotEq x y) (Gives s C (.bool (!k))):=
 ⟨.gI λQ au z=>(Ab 40 Y a b k x y e vx vy (by lia)).1 c w.w au Q z,.gI λQ au z=>aan e vx vy (by lia) c w.w au Q z⟩
theorem Ac(T:Top c w K W J mg mb)(S:St c w J F C o s.heap)(hu:Y.units+61<fP)(e:uE o a b=some k)(vx:VR c w F C s.heap a x)(vy:VR c w F C s.heap b y):
  bc c w Y own C s (iq .Eq x y) (Gives s C (.bool k))/\bc c w Y own C s (iq .NotEq x y) (Gives s C (.bool (!k))):=by
 unfold uE at e
 cases a with
 |ref i=>
  dsimp only at e
  generalize e1:o.t.get i=ax at e
  cases ax with
  |none=>exact aB e
  |some E=>
   cases E with
   |list I r=>exact Ni S (by exact rS (by assumption)) e vx vy
   |dict z=>
    cases b with
    |ref j=>
     dsimp only at e
     generalize e2:dictAt o j=ax at e
     cases ax with
     |none=>exact aB e
     |some y'=>
      exact Uc T S hu (by unfold dictAt;rw [e1]) e2 e vx vy
    |_=>exact aB e
   |_=>exact aB e
 |aD I B=>exact Ni S (by exact rS (by assumption)) e vx vy
 |_=>exact Z_ (by exact rS (by assumption)) e vx vy
theorem GB(e:yi E=some k):∃b,E=some b/\k=!b:=by
 cases E with
 |none=>exact aB e
 |some b=>cases e;exact⟨b,rfl,rfl⟩
theorem ME(e:isNone a=some k)(vx:VR c w F C s.heap a x):
  bc c w Y own C s (iq .Is x .none) (Gives s C (.bool k))/\bc c w Y own C s (iq .IsNot x .none) (Gives s C (.bool (!k))):=by
 have cI:∀ad:aA,bc c w Y own C s (iq .Is (.ref ad) .none) (Gives s C (.bool false))/\bc c w Y own C s (iq .IsNot (.ref ad) .none) (Gives s C (.bool (!false))):=λad=>
  ⟨.gI λQ au q=>is_none_ne (λh=>nomatch h) q,.gI λQ au q=>isnot_none_ne (λh=>nomatch h) q⟩
 cases a with
 |none=>cases e;subst vx;exact⟨.gI λQ au q=>is_none_none q,.gI λQ au q=>isnot_none_none q⟩
 |tup B=>cases e;obtain⟨ad,V,n,rfl,_⟩:=vx;exact cI ad
 |ref i=>cases e;obtain⟨ad,_,rfl⟩:=vx;exact cI ad
 |aD I B=>cases e;cases I<;>(first|(obtain⟨ad,V,n,rfl,_⟩:=vx;exact cI ad)|(obtain⟨ad,V,rfl,_⟩:=vx;exact cI ad))
 |_=>exact aB e
theorem Kv(e:cmpInt f a b=some k):∃i j,a=.int i/\b=.int j/\f i j=k:=by
 cases a with
 |int i=>cases b with
  |int j=>exact⟨i,j,rfl,rfl,aM e⟩
  |_=>exact aB e
 |_=>exact aB e
theorem Ku(e:zV f g a b=some k):(∃i j,a=.int i/\b=.int j/\f i j=k)\/∃I,a=.fuel I/\b=.int 0/\g I=some k:=by
 cases a with
 |int i=>cases b with
  |int j=>exact .inl ⟨i,j,rfl,rfl,aM e⟩
  |_=>exact aB e
 |fuel I=>cases b with
  |int j=>
   dsimp only [zV] at e
   generalize q:eqZ j 0=ax at e
   cases ax with
   |false=>exact aB e
   |true=>exact .inr ⟨I,rfl,by rw [(jC j 0).mp q],e⟩
  |_=>exact aB e
 |_=>exact aB e
theorem NO{b:D}(e:(match b with|.none=>E|_=>.none)=some k):b=.none/\E=some k:=by
 cases b with
 |none=>exact⟨rfl,e⟩
 |_=>exact aB e
theorem M5(i j:ba):(!(ltZ j i))=decide (i<=j):=by rw [ltZ_eq];by_cases q:i<=j<;>simp [q]<;>lia
theorem om(T:Top c w K W J mg mb)(S:St c w J F C o s.heap)(hu:Y.units+61<fP){a b:D}(e:zW o op a b=some k)(vx:VR c w F C s.heap a x)(vy:VR c w F C s.heap b y):
  bc c w Y own C s (iq op x y) (Gives s C (.bool k)):=by
 cases op with
 |Eq=>exact(Ac T S hu e vx vy).1
 |NotEq=>obtain⟨b',e',rfl⟩:=GB e;exact(Ac T S hu e' vx vy).2
 |In=>exact(Ms T S (by exact rS (by assumption)) e vx vy).1
 |NotIn=>obtain⟨b',e',rfl⟩:=GB e;exact(Ms T S (by exact rS (by assumption)) e' vx vy).2
 |Is=>
  refine xA (NO (E:=isNone a) e) λeJ e=>?_;subst eJ
  obtain rfl:y=.none:=vy
  exact(ME e vx).1
 |IsNot=>
  refine xA (NO (E:=yi (isNone a)) e) λeJ e=>?_;subst eJ
  obtain rfl:y=.none:=vy
  obtain⟨b',e',rfl⟩:=GB e;exact(ME e' vx).2
 |Lt=>
  refine eO (Kv e) λi j aE bU fV=>?_;subst aE;subst bU;subst fV
  obtain⟨t,rfl⟩:=vx;obtain⟨u,rfl⟩:=vy
  rw [ltZ_eq]
  exact .gI λQ au q=>P.lt_int q
 |LtE=>
  refine eO (Kv e) λi j aE bU fV=>?_;subst aE;subst bU;subst fV
  obtain⟨t,rfl⟩:=vx;obtain⟨u,rfl⟩:=vy
  rw [M5]
  exact .gI λQ au q=>P.le_int q
 |Gt=>
  rcases Ku e with⟨i,j,rfl,rfl,rfl⟩|⟨I,rfl,rfl,e⟩
  .obtain⟨t,rfl⟩:=vx;obtain⟨u,rfl⟩:=vy
   rw [ltZ_eq]
   exact .gI λQ au q=>P.gt_int q
  .obtain⟨i,t,rfl,hi⟩:=vx;obtain⟨u,rfl⟩:=vy
   cases I with
   |zero=>exact aB e
   |succ I=>
    rw [<-aM e,show true=decide (i>0) from(ix (by lia)).symm]
    exact .gI λQ au q=>P.gt_int q
 |GtE=>
  rcases Ku e with⟨i,j,rfl,rfl,rfl⟩|⟨I,rfl,rfl,e⟩
  .obtain⟨t,rfl⟩:=vx;obtain⟨u,rfl⟩:=vy
   rw [M5]
   exact .gI λQ au q=>P.ge_int q
  .obtain⟨i,t,rfl,hi⟩:=vx;obtain⟨u,rfl⟩:=vy
   rw [<-aM e,show true=decide (i>=0) from(ix (by lia)).symm]
   exact .gI λQ au q=>P.ge_int q
theorem Kw(T:Top c w K W J mg mb)(S:St c w J F C o s.heap)(hu:Y.units+61<fP)(e:xb W o op a b=some k)(vx:VR c w F C s.heap a x)(vy:VR c w F C s.heap b y):
  bc c w Y own C s (iq op x y) (Gives s C (.bool k)):=by
 cases op with
 |Eq=>
  unfold xb at e
  dsimp only at e
  generalize q:W.eqv a b=ax at e
  cases ax with
  |none=>exact om T S hu (op:=.Eq) e vx vy
  |some r=>
   cases e
   exact(T.eqv a b _ q Y own F C s o x y S hu vx vy).1
 |NotEq=>
  unfold xb at e
  dsimp only at e
  generalize q:W.eqv a b=ax at e
  cases ax with
  |none=>exact om T S hu (op:=.NotEq) e vx vy
  |some r=>
   cases e
   exact(T.eqv a b _ q Y own F C s o x y S hu vx vy).2
 |In=>exact om T S hu (op:=.In) e vx vy
 |NotIn=>exact om T S hu (op:=.NotIn) e vx vy
 |Is=>exact om T S hu (op:=.Is) e vx vy
 |IsNot=>exact om T S hu (op:=.IsNot) e vx vy
 |Lt=>exact om T S hu (op:=.Lt) e vx vy
 |LtE=>exact om T S hu (op:=.LtE) e vx vy
 |Gt=>exact om T S hu (op:=.Gt) e vx vy
 |GtE=>exact om T S hu (op:=.GtE) e vx vy
end
structure bZ{ag:Type}(Z:cU ag)(ae:ag->Prop):Prop where
 fail:¬ae Z.fail
 all:∀n k,ae (Z.all n k)->∀d,d<n->ae (k d)
section
variable{ag:Type}{Z:cU ag}{ae:ag->Prop}{c:a_}{w:WB}{Y:bG}{own F C:G aA}{s:aT}{J h M:aP}{o:MH}{K:b8}{W:bQ}{mg mb:ar->aa aw}
theorem mH{α:Type}(Zk:bZ Z ae){E:aa α}{F:α->ag}(e:ae (match E with|some a=>F a|.none=>Z.fail)):∃a,E=some a/\ae (F a):=by
 cases E with
 |none=>exact bP e Zk.fail
 |some a=>exact⟨a,rfl,e⟩
theorem bH(Zk:bZ Z ae)(e:ae (match b with|true=>x|false=>Z.fail)):b=true/\ae x:=by
 cases b with
 |false=>exact bP e Zk.fail
 |true=>exact⟨rfl,e⟩
theorem gW(Zk:bZ Z ae)(e:ae (Z.opt E k)):∃a,E=some a/\ae (k a):=by
 cases E with
 |none=>exact bP e Zk.fail
 |some a=>exact⟨a,rfl,e⟩
theorem iU{x y:ag}(Zk:bZ Z ae)(e:ae (@bN (λ_=>ag) Z.fail y b)):b=true/\ae y:=by
 cases b with
 |false=>exact bP e Zk.fail
 |true=>exact⟨rfl,e⟩
theorem p_(Zk:bZ Z ae)(S:St c w J F C o h){E:cL}{k:D->MH->ag}(e:ae (iV Z o E k))(hn:h.get? a=none)(hk:∀b x,h.get? b=some x->M.get? b=some x)
  (ho:iB E=true->bh [] C h (C++[a]) M->OR c w F (C++[a]) M a E):bh [] C h (C++[a]) M/\PV ae c w J F k (.ref a) (C++[a]) M:=by
 have e':ae (@bN (λ_=>ag) Z.fail (k (.ref o.n) ⟨o.t.ins o.n E,cX o.n⟩) (iB E&&cJ ((o.t.ins o.n E).get o.n))):=e
 refine xA (iU (x:=Z.fail) Zk e') λI pG=>?_
 refine xA (aN.mp I) λc1 c2=>?_
 have na:a∉C:=λq=>by
  obtain⟨i,hi,e⟩:=iE q
  refine ay (S.at_ i a (by rw [cV hi,e])) λx _ r=>?_
  refine bw r.some λy hy=>?_
  rw [hn] at hy;exact aB hy
 have st:bh [] C h (C++[a]) M:=⟨wF ..,λb x e _ _=>hk b x e,λb x e n=>⟨⟨x,hk b x e⟩,λq=>by
  rcases dI.mp q with q|q
  .exact n q
  .rw [cA.mp q,hn] at e;exact aB e⟩⟩
 refine cf (S.alloc hn hk (ho c1 st) c2) λ_ S' p=>?_
 exact⟨st,_,_,pG,S',by exact⟨a,p,rfl⟩⟩
theorem bc.push{k:D->MH->ag}{t:iT aw}{ob:jy}(Zk:bZ Z ae)(S:St c w J F C o s.heap)(e:ae (iV Z o E k))(hf:ob.isFreed=false)
  (ho:iB E=true->bh [] C s.heap (C++[s.heap.objs.size]) (s.heap.push ob)->(s.heap.push ob).get? s.heap.objs.size=some ob->OR c w F (C++[s.heap.objs.size]) (s.heap.push ob) s.heap.objs.size E)
  (x:iB E=true->∀(Q:aw->aT->Prop) (au:aw->aT->Prop),(∀tk,Q (.ref s.heap.objs.size) {s with heap:=s.heap.push ob,toks:=tk})->bo (bK c w.w) Y t Q au s):bc c w Y own C s t (PV ae c w J F k):=λQ au q=>by
 have I:iB E=true:=by
  have e':ae (@bN (λ_=>ag) Z.fail (k (.ref o.n) ⟨o.t.ins o.n E,cX o.n⟩) (iB E&&cJ ((o.t.ins o.n E).get o.n))):=e
  exact(aN.mp (iU (x:=Z.fail) Zk e').1).1
 refine xA (p_ (M:=s.heap.push ob) Zk S e (hV _) (λb x e=>lh ob e) (λI st=>ho I st (hZ _ hf))) λst p=>?_
 exact x I Q au λtk=>q _ _ _ tk st.any p
theorem oK(I:iB (.list b r)=true)(g:M.get? a=some (fT V n))(y:aW c w F ao M r V.toList.reverse)(B:r.length<=b):OR c w F ao M a (.list b r):=
 ⟨V,n,g,y,B,dw I⟩
theorem uv(I:iB (.list b r)=true):b<=4096:=dw I
theorem j4(I:jG B=true):B.length<=4096:=dw I
theorem PV.gives(S:St c w J F C o h)(e:ae (k m o))(x:VR c w F C h m v):PV ae c w J F k v C h:=⟨m,o,e,S,x⟩
theorem Sd{V ws:G aw}{Q:aw->aT->Prop}(hl:s.heap.IsList B V.toArray)(hb:s.heap.IsList b ws.toArray)
  (h:Q (.ref s.heap.objs.size) {s with heap:=s.heap.push {cls:=.type "list",data:=.seq (V++ws).toArray}}) (lD:V.length+ws.length<=rp):
  bo (bK c w.w) Y (m_ .Add (.ref B) (.ref b)) Q au s:=by
 obtain⟨⟨cls,dd,data,sl⟩,ho,hc,n,hd⟩:=id hl
 obtain⟨⟨TN,xf,data2,yC⟩,nA,kG,n2,xE⟩:=id hb
 simp only at hc hd kG xE
 subst hc hd kG xE
 have e:V.toArray++ws.toArray=(V++ws).toArray:=by simp
 refine DM ⟨_,ho,rfl⟩ ⟨_,nA,rfl⟩ noFill_list_add seq_list_add PySem.F.slot_list_add PySem.F.entry_list_add (PySem.F.args_list_add_2 _ _) (list_addW B b V.toArray ws.toArray n n2 dd xf sl yC (by simpa using lD)) ⟨ho,nA,?_⟩
 rw [e]
 exact h
theorem Se(ht:s.heap.IsTuple t V.toArray)(hb:s.heap.IsTuple b ws.toArray)
  (h0:V=[]->Q (.ref b) s) (h1:V≠[]->ws=[]->Q (.ref t) s)
  (h2:V≠[]->ws≠[]->Q (.ref s.heap.objs.size) {s with heap:=s.heap.push {cls:=.type "tuple",data:=.seq (V++ws).toArray}}) (lD:V.length+ws.length<=rp):
  bo (bK c w.w) Y (m_ .Add (.ref t) (.ref b)) Q au s:=by
 obtain⟨⟨cls,dd,data,sl⟩,ho,hc,n,hd⟩:=id ht
 obtain⟨⟨TN,xf,data2,yC⟩,nA,kG,n2,xE⟩:=id hb
 simp only at hc hd kG xE
 subst hc hd kG xE
 have e:V.toArray++ws.toArray=(V++ws).toArray:=by simp
 by_cases hv:V=[]
 .exact DM ⟨_,ho,rfl⟩ ⟨_,nA,rfl⟩ NG Oz JM JJ (JI _ _)
   (tuple_addW0 t b V.toArray ws.toArray n n2 dd xf sl yC (by simp [hv])) ⟨ho,nA,h0 hv⟩
 .by_cases hw:ws=[]
  .exact DM ⟨_,ho,rfl⟩ ⟨_,nA,rfl⟩ NG Oz JM JJ (JI _ _)
    (tuple_addW1 t b V.toArray ws.toArray n n2 dd xf sl yC (by simpa using hv) (by simp [hw])) ⟨ho,nA,h1 hv hw⟩
  .refine DM ⟨_,ho,rfl⟩ ⟨_,nA,rfl⟩ NG Oz JM JJ (JI _ _)
    (tuple_addW2 t b V.toArray ws.toArray n n2 dd xf sl yC (by simpa using hv) (by simpa using hw) (by rw [t8,t8];exact lD)) ⟨ho,nA,?_⟩
   rw [e]
   exact h2 hv hw
theorem Z9
  (hl:s.heap.get? B=some {cls:=.type "list",dict:=none,data:=.seq ft k,slots:=#[]})
  (ags:-(2^63:ba)<=x) (agr:x<2^63) (lD:ft.size*x.toNat<=2^24)
  (h:Q (.ref s.heap.objs.size) {s with heap:=s.heap.push {cls:=.type "list",data:=.seq (Jj (λx1 x2=>x1++x2) #[] (dh (if ft.isEmpty=true then 0 else x.toNat) ft))}}):
  bo (bK c w.w) Y (m_ .Mult (.ref B) (.int x u)) Q au s:=
 wpAny_binaryOp_repeat_ref (T:="list") (U:="int") (by decide) ⟨_,hl,rfl⟩ (λs'=>typeIs_int s' x u) noFill_list_mul F.fills_int_mul F.slot_int_rmul repeat_list F.slot_int_index.lookup
  (w9 F.slot_int_rmul (typeIs_int s x u) F.entry_int_rmul (F.args_int_rmul_2 _ _) (int___rmul___int_list x u B ft k)
   ⟨hl,rfl,⟨_,hl,rfl⟩,w9 F.slot_list_mul ⟨_,hl,rfl⟩ F.entry_list_mul (F.args_list_mul_2 _ _)
    (AutoListH.list___mul___list_int_3 B ft k x u (by simp [Builtin.List.listFitsIndex];lia) (by lia) (by simp [Builtin.List.listTooLong,rp];assumption))
    ⟨hl,h⟩⟩)
end
section
variable{ag:Type}{Z:cU ag}{ae:ag->Prop}{c:a_}{w:WB}{Y:bG}{own F C:G aA}{s:aT}{J h M:aP}{o:MH}{K:b8}{W:bQ}{mg mb:ar->aa aw}
theorem aeb(x y:ar):x++y=(⟨⟨app x.1.1 y.1.1⟩⟩:ar):=by
 obtain⟨⟨x⟩⟩:=x
 obtain⟨⟨y⟩⟩:=y
 rw [gM]
 refine(?_:(⟨(⟨x⟩:dS H)++(⟨y⟩:dS H)⟩:ar)=_)
 simp
theorem HM(B:G H):g8 ⟨⟨B⟩⟩=true↔∀I∈B,I<0x110000:=by
 refine(?_:(Array.all ⟨B⟩ (λI=>decide (I<0x110000)))=true↔_)
 rw [<-Array.all_toList,l9]
 simp
theorem aea(a:g8 x=true)(b:g8 y=true):g8 ⟨⟨app x.1.1 y.1.1⟩⟩=true:=by
 obtain⟨⟨x⟩⟩:=x
 obtain⟨⟨y⟩⟩:=y
 rw [HM] at*
 rw [gM]
 intro I hc
 refine dC (dI.mp hc) (λq=>?_) λq=>?_
 .exact a I q
 .exact b I q
theorem ac0(S:St c w J F C o s.heap):cM F C s.heap.objs.size:=by
 refine⟨λq=>?_,λq=>?_⟩
 .obtain⟨⟨E,ho⟩,_⟩:=S.cI _ q
  rw [hV] at ho;exact aB ho
 .obtain⟨i,hi,e⟩:=iE q
  refine ay (S.at_ i s.heap.objs.size (by rw [cV hi,e])) λx _ r=>?_
  refine bw r.some λy hy=>?_
  rw [hV] at hy;exact aB hy
theorem fK(h:aP)(E:jy):∀b x,h.get? b=some x->(h.push E).get? b=some x:=λb x e=>lh E e
theorem Gu(S:St c w J F C o s.heap)(e:ae (k (.tup B) o))(y:aW c w F C s.heap B V):
  bh [] C s.heap C (s.heap.push (kX V.toArray 0))/\PV ae c w J F k (.ref s.heap.objs.size) C (s.heap.push (kX V.toArray 0)):=by
 refine xA (S.grow (M:=s.heap.push (kX V.toArray 0)) (fK _ _)) λst S'=>?_
 refine⟨st,_,_,e,S',?_⟩
 exact⟨_,V.toArray,0,rfl,ac0 S,hZ _ rfl,by simpa using y.step st⟩
theorem zL{α:Type}(B m:G α):(app B m).length=B.length+m.length:=by rw [gM,fy]
theorem rr(h:n<=8192):n<=rp:=by rw [rq];exact dQ (by assumption) (by decide)
theorem Sb(Zk:bZ Z ae)(S:St c w J F C o s.heap)(e:ae (answer Z (uo o a b) o k))(vx:VR c w F C s.heap a x)(vy:VR c w F C s.heap b y):
  bc c w Y own C s (m_ .Add x y) (PV ae c w J F k):=by
 have M8:∀p q,eV o a=some p->eV o b=some q->ae (iV Z o (.list (p.1+q.1) (app q.2 p.2)) k)->bc c w Y own C s (m_ .Add x y) (PV ae c w J F k):=by
  intro p q e1 e2 e
  refine LstAt.el (nF S e1 vx) λa1 V n bU g1 y1 l1 _=>?_;subst bU
  refine LstAt.el (nF S e2 vy) λa2 ws n2 bU g2 y2 l2 _=>?_;subst bU
  refine bc.push Zk S e (ob:={cls:=.type "list",data:=.seq (V.toList++ws.toList).toArray}) rfl (λI st g=>?_) (λI Q au q'=>?_)
  .refine oK (n:=0) I g ?_ (by rw [zL];lia)
   rw [gM]
   have:=(y2.step st).append (y1.step st)
   simpa using this
  .refine Sd (iJ g1) (iJ g2) (q' s.toks) ?_
   have c1:=uv I
   have z1:=y1.length
   have z2:=y2.length
   rw [ez] at z1 z2
   exact rr (by lia)
 cases a with
 |str i=>
  cases b with
  |str j=>
   dsimp only [uo,N0] at e
   generalize I:jG (app i.1.1 j.1.1)=ax at e
   cases ax with
   |false=>exact bP e Zk.fail
   |true=>
    obtain⟨⟨t,rfl⟩,o1⟩:=vx
    obtain⟨⟨u,rfl⟩,o2⟩:=vy
    have hl:=j4 I
    rw [zL] at hl
    intro Q au q
    refine PyProof.Rows.add_str (λt' tk=>?_) (rr (by show i.1.1.length+j.1.1.length<=8192;exact dQ (by assumption) (by decide)))
    rw [aeb]
    exact q _ C s.heap tk (.refl ..) (PV.gives S e (by exact⟨⟨t',rfl⟩,aea o1 o2⟩))
  |_=>exact bP e Zk.fail
 |tup B=>
  cases b with
  |tup m=>
   dsimp only [uo,N1] at e
   generalize I:jG (app B m)=ax at e
   cases ax with
   |false=>exact bP e Zk.fail
   |true=>
    have e':ae (k (.tup (B++m)) o):=gM B m▸e
    have afi:=vx
    have Iz:=vy
    refine gr.el vx.gj λa1 V n1 bU s1 g1 y1=>?_;subst bU
    refine gr.el vy.gj λa2 ws n2 bU s2 g2 y2=>?_;subst bU
    have hl:=j4 I
    rw [zL] at hl
    have z1:=y1.length
    have z2:=y2.length
    intro Q au q
    refine Se (isTup g1) (isTup g2) (λhv=>?_) (λhv hw=>?_) (λhv hw=>?_) (rr (by lia))
    .have:B=[]:=by cases B with|nil=>rfl|cons I r=>rw [hv] at z1;cases z1
     subst this
     exact q _ C s.heap s.toks (.refl ..) (PV.gives S e' Iz)
    .have:m=[]:=by cases m with|nil=>rfl|cons I r=>rw [hw] at z2;cases z2
     subst this
     rw [h_] at e'
     exact q _ C s.heap s.toks (.refl ..) (PV.gives S e' afi)
    .refine xA (Gu S e' (y1.append y2)) λst p=>?_
     exact q _ C _ s.toks st.any p
  |_=>exact bP e Zk.fail
 |int i=>
  cases b with
  |int j=>
   refine bw vx ?_;clear vx;intro t aI;subst aI
   refine bw vy ?_;clear vy;intro u aI;subst aI
   exact λQ au q=>PyProof.Rows.add_int (q _ C s.heap (s.toks+1) (.refl ..) (PV.gives S e (by exact⟨_,rfl⟩)))
  |_=>exact bP e Zk.fail
 |ref i=>
  dsimp only [uo] at e
  cases e1:eV o (.ref i) with
  |none=>rw [e1] at e;exact bP e Zk.fail
  |some p=>
   cases e2:eV o b with
   |none=>rw [e1] at e;dsimp only at e;rw [e2] at e;exact bP e Zk.fail
   |some q=>rw [e1] at e;dsimp only at e;rw [e2] at e;exact M8 p q e1 e2 e
 |aD I i=>
  dsimp only [uo] at e
  cases e1:eV o (.aD I i) with
  |none=>rw [e1] at e;exact bP e Zk.fail
  |some p=>
   cases e2:eV o b with
   |none=>rw [e1] at e;dsimp only at e;rw [e2] at e;exact bP e Zk.fail
   |some q=>rw [e1] at e;dsimp only at e;rw [e2] at e;exact M8 p q e1 e2 e
 |_=>exact bP e Zk.fail
theorem Oi(B:G D)(n:H):rep B n=(dh n B).flatten:=by
 induction n with
 |zero=>rfl
 |succ n O=>show app B (rep B n)=_;rw [gM,O,Jr,Ji]
theorem VV(xs:G (dS aw))(b_:dS aw):(xs.foldl (λx1 x2=>x1++x2) b_).toList=b_.toList++(xs.map (·.toList)).flatten:=by
 induction xs generalizing b_ with
 |nil=>simp
 |cons x xs O=>rw [Jk,O];simp
theorem acy(y:aW c w F C h B V)(n:H):aW c w F C h (dh n B).flatten (dh n V).flatten:=by
 induction n with
 |zero=>exact .nil
 |succ n O=>rw [Jr,Jr,Ji,Ji];exact y.append O
theorem acB{α:Type}(B:G α)(n:H):(dh n B).flatten.reverse=(dh n B.reverse).flatten:=by
 rw [List.reverse_flatten,Jp,Q3]
theorem Z8(Zk:bZ Z ae)(S:St c w J F C o s.heap)(e:ae (answer Z (Gh o a b) o k))(vx:VR c w F C s.heap a x)(vy:VR c w F C s.heap b y):
  bc c w Y own C s (m_ .Mult x y) (PV ae c w J F k):=by
 cases b with
 |int i=>
  dsimp only [Gh] at e
  generalize e1:eV o a=ax at e
  cases ax with
  |none=>
   cases a with
   |int j=>
    dsimp only at e
    generalize I:eqZ i 48271=ax at e
    cases ax with
    |false=>exact bP e Zk.fail
    |true=>
     have:=(jC i 48271).mp I
     subst this
     refine bw vx ?_;clear vx;intro t aI;subst aI
     refine bw vy ?_;clear vy;intro u aI;subst aI
     exact λQ au q=>PyProof.Rows.mul_int (q _ C s.heap (s.toks+1) (.refl ..) (PV.gives S e (by exact⟨_,rfl⟩))) (IntMulOk.of_right (by decide+kernel))
   |_=>exact bP e Zk.fail
  |some p=>
   cases i with
   |negSucc n=>exact bP e Zk.fail
   |ofNat n=>
    dsimp only at e
    generalize I:eB n 100=ax at e
    cases ax with
    |false=>exact bP e Zk.fail
    |true=>
     have hn:=dw I
     refine LstAt.el (nF S e1 vx) λa1 V n1 bU g1 y1 l1 l4=>?_;subst bU
     refine bw vy ?_;clear vy;intro u aI;subst aI
     have z1:=y1.length
     rw [ez] at z1
     have hm:V.size*n<=4096*100:=Rl (by rw [<-hX];lia) hn
     refine bc.push Zk S e (ob:={cls:=.type "list",data:=.seq (Jj (λx1 x2=>x1++x2) #[] (dh (if V.isEmpty=true then 0 else(tW n).toNat) V))}) rfl (λI st g=>?_) (λI Q au q'=>?_)
     .refine oK (n:=0) I g ?_ ?_
      .have:(Jj (λx1 x2=>x1++x2) #[] (dh (if V.isEmpty=true then 0 else(tW n).toNat) V)).toList=(dh n V.toList).flatten:=by
        rw [VV]
        by_cases q:V.isEmpty=true
        .have q':V.toList=[]:=by simpa using q
         rw [bT q,q'];simp
        .rw [bk q];simp
       rw [this,acB,Oi]
       exact acy (y1.step st) n
      .rw [Oi,List.length_flatten,Jp,List.sum_replicate_nat,Rk]
       exact Nat.mul_le_mul_right n l1
     .exact Z9 g1 (by show-(2^63:ba)<=(n:ba);lia) (by show(n:ba)<2^63;lia) (by show V.size*n<=2^24;exact dQ (by assumption) (by decide)) (q' s.toks)
 |_=>exact bP e Zk.fail
theorem Fh(Zk:bZ Z ae)(S:St c w J F C o s.heap)(hf:∀(i j:ba) (t u:Tok),ae (answer Z (f i j) o k)->bc c w Y own C s (m_ op (.int i t) (.int j u)) (PV ae c w J F k))(e:ae (answer Z (intOp f a b) o k))(vx:VR c w F C s.heap a x)(vy:VR c w F C s.heap b y):
  bc c w Y own C s (m_ op x y) (PV ae c w J F k):=by
 cases a with
 |int i=>
  cases b with
  |int j=>
   refine bw vx ?_;clear vx;intro t aI;subst aI
   refine bw vy ?_;clear vy;intro u aI;subst aI
   exact hf i j t u e
  |_=>exact bP e Zk.fail
 |_=>exact bP e Zk.fail
theorem Iy:VR c w F C h (.int i) (.int i t):=by exact⟨_,rfl⟩
theorem Z7(Zk:bZ Z ae)(S:St c w J F C o s.heap)(e:ae (answer Z (Gg i j) o k)):bc c w Y own C s (m_ .Mod (.int i t) (.int j u)) (PV ae c w J F k):=by
 unfold Gg at e
 generalize I:ltZ 0 j=ax at e
 cases ax with
 |false=>exact bP e Zk.fail
 |true=>
  have I:=(j5 _ _).mp I
  exact λQ au q=>PyProof.Rows.mod_int' (by lia) (q _ C s.heap (s.toks+1) (.refl ..) (PV.gives S e Iy))
theorem Ug(Zk:bZ Z ae)(S:St c w J F C o s.heap)(e:ae (answer Z (DX i j) o k)):bc c w Y own C s (m_ .FloorDiv (.int i t) (.int j u)) (PV ae c w J F k):=by
 unfold DX at e
 cases I:ltZ 0 j&&ltZ j 1000 with
 |false=>rw [I] at e;exact bP e Zk.fail
 |true=>
  rw [I] at e
  refine xA (aN.mp I) λc1 c2=>?_
  have c1:=(j5 _ _).mp c1
  have c2:=(j5 _ _).mp c2
  exact λQ au q=>PyProof.Rows.floordiv_int (by lia) (q _ C s.heap (s.toks+1) (.refl ..) (PV.gives S e Iy)) (.inl (PyProof.noPylong_small (by lia)))
theorem ab8(Zk:bZ Z ae)(S:St c w J F C o s.heap)(e:ae (answer Z (He i j) o k)):bc c w Y own C s (m_ .Pow (.int i t) (.int j u)) (PV ae c w J F k):=by
 unfold He at e
 cases I:eqZ i 10&&eqZ j 18 with
 |false=>rw [I] at e;exact bP e Zk.fail
 |true=>
  rw [I] at e
  refine xA (aN.mp I) λc1 c2=>?_
  have c1:=(jC _ _).mp c1
  have c2:=(jC _ _).mp c2
  subst c1 c2
  exact λQ au q=>PyProof.Rows.pow_int_small (by decide) (by decide) (by decide) (q _ C s.heap (s.toks+1) (.refl ..) (PV.gives S e Iy))
theorem S0(Zk:bZ Z ae)(S:St c w J F C o s.heap)(e:ae (answer Z (binOp o op a b) o k))(vx:VR c w F C s.heap a x)(vy:VR c w F C s.heap b y):
  bc c w Y own C s (m_ op x y) (PV ae c w J F k):=by
 cases op with
 |Add=>exact Sb Zk S e vx vy
 |Mult=>exact Z8 Zk S e vx vy
 |Sub=>
  cases a with
  |int i=>
   cases b with
   |int j=>
    refine bw vx ?_;clear vx;intro t aI;subst aI
    refine bw vy ?_;clear vy;intro u aI;subst aI
    exact λQ au q=>RH (q _ C s.heap (s.toks+1) (.refl ..) (PV.gives S e (by exact⟨_,rfl⟩)))
   |_=>exact bP e Zk.fail
  |fuel I=>
   cases b with
   |int j=>
    dsimp only [binOp,O0] at e
    generalize q:eqZ j 1=ax at e
    cases ax with
    |false=>exact bP e Zk.fail
    |true=>
     have:=(jC j 1).mp q
     subst this
     cases I with
     |zero=>exact bP e Zk.fail
     |succ I=>
      refine jv vx ?_;clear vx;intro i t aE hi;subst aE
      refine bw vy ?_;clear vy;intro u aI;subst aI
      exact λQ au q=>RH (q _ C s.heap (s.toks+1) (.refl ..) (PV.gives S e (by exact⟨_,_,rfl,by lia⟩)))
   |_=>exact bP e Zk.fail
  |_=>exact bP e Zk.fail
 |Mod=>exact Fh Zk S (λ_ _ _ _=>Z7 Zk S) e vx vy
 |FloorDiv=>exact Fh Zk S (λ_ _ _ _=>Ug Zk S) e vx vy
 |Pow=>exact Fh Zk S (λ_ _ _ _=>ab8 Zk S) e vx vy
 |_=>exact bP e Zk.fail
theorem ae5(Zk:bZ Z ae)(S:St c w J F C o s.heap)(e:Pu op a=some m)(e':ae (k m o))(vx:VR c w F C s.heap a x):
  bc c w Y own C s (unaryOp op x) (PV ae c w J F k):=by
 cases op with
 |Not=>
  cases a with
  |bool b=>
   cases e
   subst vx
   exact λQ au q=>not_of (II (q _ C s.heap s.toks (.refl ..) (PV.gives S e' (by rfl))))
  |_=>exact aB e
 |USub=>
  cases a with
  |int i=>
   cases e
   refine bw vx ?_;clear vx;intro t aI;subst aI
   exact λQ au q=>PyProof.Rows.neg_int (q _ C s.heap (s.toks+1) (.refl ..) (PV.gives S e' (by exact⟨_,rfl⟩)))
  |_=>exact aB e
 |_=>exact aB e
end
section
variable{ag:Type}{Z:cU ag}{ae:ag->Prop}{c:a_}{w:WB}{Y:bG}{own F C:G aA}{s:aT}{J h M:aP}{o:MH}{K:b8}{W:bQ}{mg mb:ar->aa aw}
theorem O5(slice:JH)(E i:aw):∃ops,subscripted slice false E i=operate ops (getItem E i):=by
 cases slice with
 |Slice lo up st p=>cases st<;>exact⟨_,rfl⟩
 |_=>exact⟨_,rfl⟩
theorem Mq(e:AL B k=some m)(y:aW c w F C h B V):(0<=k/\∃v,V[k.toNat]?=some v/\VR c w F C h m v)\/(k<0/\-(V.length:ba)<=k/\∃v,V[(k+V.length).toNat]?=some v/\VR c w F C h m v):=by
 have hl:=y.length
 cases k with
 |ofNat n=>
  have e':fJ B n=some m:=e
  rw [oN] at e'
  exact .inl ⟨Cn n,y.get e'⟩
 |negSucc n=>
  refine xA (bI (show(match dB n B.length with|true=>fJ B (B.length-(n+1))|false=>none)=some m from e)) λI e=>?_
  have hn:n<B.length:=dw I
  rw [oN] at e
  have e3:Int.negSucc n+(V.length:ba)=((B.length-(n+1):H):ba):=by rw [hl,Int.ofNat_sub hn,Int.add_comm];rfl
  refine .inr ⟨Qt n,?_,e3▸y.get e⟩
  rw [hl]
  exact Int.neg_le_neg (Qu.mpr hn)
theorem ac8{n:H}(h0:k<0)(h1:-(n:ba)<=k):Hw k n=some (k+n).toNat:=by
 unfold Hw
 rw [bT h0]
 have:(decide (0<=k+(n:ba))&&decide (k+(n:ba)<(n:ba)))=true:=by
  rw [ix (wt (I9 (Int.add_left_neg (n:ba)).symm) (Int.add_le_add_right h1 (n:ba))),ix (Int.lt_of_lt_of_le (Qs h0 (n:ba)) (I9 (Qx _)))];rfl
 exact bT this
theorem ac9(h0:0<=k)(h1:k.toNat<n):Hw k n=some k.toNat:=by
 unfold Hw
 rw [bk (Int.not_lt.mpr h0)]
 have:(decide (0<=k)&&decide (k<(n:ba)))=true:=by
  rw [ix h0,ix ((Int.toNat_lt h0).mp h1)];rfl
 exact bT this
theorem OG{V:dS aw}(y:aW c w F C h B V.toList):V.size=B.length:=by have:=y.length;rwa [hX] at this
theorem adB(e:(match small k with|true=>AL B k|false=>none)=some m):AL B k=some m/\-4611686018427387904<k/\k<4611686018427387904:=by
 refine xA (bI e) λI e=>?_
 unfold small at I
 rw [ltZ_eq,ltZ_eq,tR,KN,KN] at I
 exact⟨e,I.2,I.1⟩
theorem aeg(T:Top c w K W J mg mb)(S:St c w J F C o s.heap)(e:HR o E i=some m)(vx:VR c w F C s.heap E x)(vy:VR c w F C s.heap i y):
  bc c w Y own C s (O3 value slice x y) (λv ao M=>VR c w F ao M m v/\ao=C/\M=s.heap):=by
 refine bw (O5 slice x y) λops hs=>?_
 unfold HR at e
 generalize e1:itemsOf o E=ax at e
 cases ax with
 |some B=>
  obtain⟨a,V,n,rfl,g,yl⟩:=Fv S e1 vx
  cases i with
  |int k=>
   dsimp only at e
   refine cf (adB e) λe b1 b2=>?_
   refine bw vy ?_;clear vy;intro t aI;obtain rfl:=aI.symm
   have sz:V.size=V.toList.length:=by simp
   refine dC g ?_ ?_<;>clear g<;>intro g
   .have tt:IsTup s.heap a V:=isTup g
    rcases Mq e yl with⟨h0,v,h1,h2⟩|⟨h0,h3,v,h1,h2⟩
    .have hk:k.toNat<V.toList.length:=(eM.mp h1).1
     exact λQ au q=>yI tt.typeIs slot_tuple_getitem.lookup (RF tt (rI (rJ (by decide) b1)) (rJ b2 (by decide)) (ac9 h0 (by rw [sz];exact hk)) (by rw [<-yY];exact h1) (q v C s.heap s.toks (.refl ..) ⟨h2,rfl,rfl⟩)) hs
    .rw [<-sz] at h1 h3
     exact λQ au q=>yI tt.typeIs slot_tuple_getitem.lookup (RF tt (rI (rJ (by decide) b1)) (rJ b2 (by decide)) (ac8 h0 h3) (by rw [<-yY];exact h1) (q v C s.heap s.toks (.refl ..) ⟨h2,rfl,rfl⟩)) hs
   .have tt:=iJ g
    rcases Mq e yl with⟨h0,v,h1,h2⟩|⟨h0,h3,v,h1,h2⟩
    .exact λQ au q=>yI tt.typeIs OF.lookup (wpAny_getItem_list tt h0 (rJ b2 (by decide)) (by rw [<-yY];exact h1) (q v C s.heap s.toks (.refl ..) ⟨h2,rfl,rfl⟩)) hs
    .rw [<-sz] at h1 h3
     exact λQ au q=>yI tt.typeIs OF.lookup (wpAny_getItem_list_neg tt h0 h3 (rI (rJ (by decide) b1)) (by rw [<-yY];exact h1) (q v C s.heap s.toks (.refl ..) ⟨h2,rfl,rfl⟩)) hs
  |_=>exact aB e
 |none=>
  have e2:=AX e
  obtain⟨a,L,dl,fS,aR,key,rfl,ns,hk,hd,r⟩:=DV T S e2 vx vy
  rcases r with⟨r,_⟩|⟨m',u,q1,r,hv⟩
  .exact ql r
  .cases q1
   exact λQ au q=>yI hd.typeIs slot_dict_getitem.lookup (wpAny_getItem_of hk hd.mapOf r (q u C s.heap (s.toks+1) (.refl ..) ⟨hv,rfl,rfl⟩)) hs
theorem SE(n:H):sliceBounds none (some 0) (some (-1)) n=((n:ba)-1,if n=0 then-1 else 0,-1):=by
 cases n with
 |zero=>rfl
 |succ n=>
  have e:((n+1:H):ba)-1=(n:ba):=I6 (n:ba) 1
  have:max (-1:ba) (min 0 (n:ba))=0:=by rw [Int.min_eq_left (Cn n)];rfl
  refine(?_:(((n+1:H):ba)-1,max (-1:ba) (min 0 (((n+1:H):ba)-1)),-1)=_)
  rw [e,this]
  rfl
theorem SG(n:H):sliceRange ((n:ba)-1) (if n=0 then-1 else 0) (-1)=((fZ (n-1)).map (1+·)).reverse:=by
 cases n with
 |zero=>rfl
 |succ n=>
  rw [show((n+1:H):ba)-1=(n:ba) from I6 (n:ba) 1,bk (rV n)]
  have e:(if(n:ba)>0 then((n:ba)-0- -1-1) /(- -1) else 0).toNat=n:=by
   cases n with
   |zero=>rfl
   |succ n=>
    rw [bT (Ja.mpr (ug n)),show(((n+1:H):ba)-0- -1-1) /(- -1)=((n+1:H):ba) from(Int.ediv_one _).trans (by rw [Int.sub_zero];exact I6 ((n+1:H):ba) 1)]
    rfl
  refine(?_:(fZ (if(n:ba)>0 then((n:ba)-0- -1-1) /(- -1) else 0).toNat).map (λk:H=>((n:ba)+-1*(k:ba)).toNat)=_)
  rw [e]
  refine QG (by rw [ez,cZ,cZ];rfl) λi g1 g2=>?_
  rw [cZ,wB] at g1
  refine bw (Nat.exists_eq_add_of_lt g1) λd aI=>?_;subst aI
  rw [List.getElem_reverse,QM,QM,QN,QN,cZ,wB,Int.neg_mul,Int.one_mul]
  refine(?_:(((i+d+1:H):ba)-(i:ba)).toNat=1+(i+d+1-1-i))
  rw [Int.toNat_sub,Rb,jO,ph,jO,mV]
theorem ab3(ft:dS aw):BM ft none (some 0) (some (-1))=(ft.toList.drop 1).reverse.toArray:=by
 unfold BM
 rw [SE]
 refine(?_:((sliceRange ((ft.size:ba)-1) (if ft.size=0 then-1 else 0) (-1)).filterMap (ft[·]?)).toArray=_)
 rw [SG,List.filterMap_reverse,pick_run,Q6 (by simp)]
theorem part_of(x:VR c w F C h m v)(e:m=.none\/∃i,m=.int i):∃E,tX v E/\E=match m with|.int i=>some i|_=>none:=by
 rcases e with rfl|⟨i,rfl⟩
 .subst x;exact⟨none,.none,rfl⟩
 .obtain⟨t,rfl⟩:=x;exact⟨some i,.int i t,rfl⟩
theorem adv{gL:D->D->D->G D->Prop}{lo up st:D}(e:vQ B lo up st=some r)(h1:∀k,gL .none (.int (.ofNat k)) .none (B.take k))(h2:gL .none (.int (-1)) .none B.dropLast)(h3:∀k,gL (.int (.ofNat k)) .none .none (B.drop k))
  (h4:gL .none .none (.int (-1)) B.reverse) (h5:gL .none (.int 0) (.int (-1)) (B.drop 1).reverse):gL lo up st r:=by
 cases st with
 |none=>cases lo with
  |none=>cases up with
   |int u=>cases u with
    |ofNat k=>exact aM e▸h1 k
    |negSucc k=>cases k with
     |zero=>exact aM e▸h2
     |succ k=>exact aB e
   |_=>exact aB e
  |int u=>cases u with
   |ofNat k=>cases up with
    |none=>exact aM e▸h3 k
    |_=>exact aB e
   |negSucc k=>exact aB e
  |_=>exact aB e
 |int I=>
  dsimp only [vQ] at e
  refine xA (bI e) λq e=>?_
  rw [(jC I (-1)).mp q]
  cases lo with
  |none=>cases up with
   |none=>exact aM e▸h4
   |int u=>
    dsimp only at e
    generalize q:eqZ u 0=ax at e
    cases ax with
    |false=>exact aB e
    |true=>rw [(jC u 0).mp q];exact aM e▸h5
   |_=>exact aB e
  |_=>exact aB e
 |_=>exact aB e
theorem adw{lo up st:D}(e:vQ B lo up st=some r)(y:aW c w F C h B V.toList)(xl:VR c w F C h lo vl)(xu:VR c w F C h up vu)(xs:VR c w F C h st vt):
  ∃a b I,tX vl a/\tX vu b/\tX vt I/\I≠some 0/\aW c w F C h r (BM V a b I).toList/\r.length<=B.length:=by
 have sz:=OG y
 revert xl xu xs
 refine adv (gL:=λlo up st r=>VR c w F C h lo vl->VR c w F C h up vu->VR c w F C h st vt->∃a b I,tX vl a/\tX vu b/\tX vt I/\I≠some 0/\aW c w F C h r (BM V a b I).toList/\r.length<=B.length) e (λk xl xu xs=>?_) (λxl xu xs=>?_) (λk xl xu xs=>?_) (λxl xu xs=>?_) (λxl xu xs=>?_)
 .obtain rfl:vl=.none:=xl;obtain⟨t,rfl⟩:=xu;obtain rfl:vt=.none:=xs
  refine⟨none,some (k:ba),none,.none,.int _ _,.none,by simp,?_,?_⟩
  .rw [slicePick_upto'];exact y.take k
  .rw [zj];exact Ri ..
 .obtain rfl:vl=.none:=xl;obtain⟨t,rfl⟩:=xu;obtain rfl:vt=.none:=xs
  refine⟨none,some (-((1:H):ba)),none,.none,.int _ _,.none,by simp,?_,?_⟩
  .rw [slicePick_butLast _ 1 (fG 1)]
   have:=y.dropLast
   rw [ze (l:=V.toList)] at this
   simpa using this
  .rw [QO];exact JA ..
 .obtain⟨t,rfl⟩:=xl;obtain rfl:vu=.none:=xu;obtain rfl:vt=.none:=xs
  refine⟨some (k:ba),none,none,.int _ _,.none,.none,by simp,?_,?_⟩
  .rw [slicePick_from'];exact y.drop k
  .rw [rL];exact JA ..
 .obtain rfl:vl=.none:=xl;obtain rfl:vu=.none:=xu;obtain⟨t,rfl⟩:=xs
  refine⟨none,none,some (-1),.none,.none,.int _ _,by simp,?_,?_⟩
  .rw [krv_pick];exact y.reverse
  .rw [ez];exact fG _
 .obtain rfl:vl=.none:=xl;obtain⟨t',rfl⟩:=xu;obtain⟨t,rfl⟩:=xs
  refine⟨none,some 0,some (-1),.none,.int _ _,.int _ _,by simp,?_,?_⟩
  .rw [ab3];exact(y.drop 1).reverse
  .rw [ez,rL];exact JA ..
theorem adx(Zk:bZ Z ae)(S:St c w J F C o s.heap){E lo up st:D}(e:ae (answer Z (HD o E lo up st) o k))
  (vx:VR c w F C s.heap E x) (xl:VR c w F C s.heap lo vl) (xu:VR c w F C s.heap up vu) (xs:VR c w F C s.heap st vt):
  ∀sl,s.heap.IsSliceOf sl vl vu vt->bc c w Y own C s (O3 value slice x (.ref sl)) (PV ae c w J F k):=by
 intro sl Xm
 refine bw (O5 slice x (.ref sl)) λops hs=>?_
 have go:∀p,eV o E=some p->∀ys,vQ (rv p.2) lo up st=some ys->ae (iV Z o (.list p.1 (rv ys)) k)->bc c w Y own C s (O3 value slice x (.ref sl)) (PV ae c w J F k):=by
  intro p e1 ys e2 e
  refine LstAt.el (nF S e1 vx) λa1 V n bU g1 y1 l1 l4=>?_;subst bU
  rw [fD] at e2
  have y2:aW c w F C s.heap p.2.reverse V.toList:=by simpa using y1.reverse
  refine dO (adw e2 y2 xl xu xs) λa b I pa bB=>eN bB λpb pc c0 dA=>xA dA λyr lr=>?_
  have sz:V.size<=rp:=rr (by rw [OG y2,ez];exact dQ (dQ l1 l4) (by decide))
  refine bc.push Zk S e (ob:={cls:=.type "list",data:=.seq (BM V a b I)}) rfl (λcc st g=>?_) (λcc Q au q'=>?_)
  .refine oK (n:=0) cc g ?_ ?_
   .rw [fD];exact(yr.step st).reverse
   .rw [fD,ez]
    rw [ez] at lr
    exact dQ lr l1
  .exact yI (iJ g1).typeIs OF.lookup (wpAny_getItem_list_slice (iJ g1) Xm pa pb pc c0 (q' s.toks) sz) hs
 unfold HD at e
 generalize e1:eV o E=ax at e
 cases ax with
 |none=>exact bP e Zk.fail
 |some p=>
  dsimp only at e
  generalize e2:vQ (rv p.2) lo up st=ax at e
  cases ax with
  |none=>exact bP e Zk.fail
  |some ys=>exact go p e1 ys e2 e
end
section
variable{ag:Type}{Z:cU ag}{ae:ag->Prop}{c:a_}{w:WB}{Y:bG}{own F C:G aA}{s:aT}{J h M:aP}{o:MH}{K:b8}{W:bQ}{mg mb:ar->aa aw}
structure Qk(K:b8)(names:G ar)(aq:H)(ms:G (ar×H)):Prop where
 make:makesIn K aq=true
 dict:(clsIn K aq).any (·.hasDict)=true
 plain:plainOver K aq=true
 ga:oC K (.ref aq) "__getattribute__" =some (some (.builtin "object.__getattribute__"))
 gm:oC K (.ref aq) "__getattr__" =some none
 sa:oC K (.ref aq) "__setattr__" =some (some (.builtin "object.__setattr__"))
 field:∀x∈names,g8 x=true/\oC K (.ref aq) x=some none
 yc:∀x f,g_ ms x=some f->oC K (.ref aq) x=some (some (.ref f))/\typeIn K (.ref f)=some (.type "function")
theorem JY{α:Type}(p:ar×α)(B:G (ar×α))(x:ar):g_ (p::B) x=if p.1=x then some p.2 else g_ B x:=by
 refine(?_:@bN (λ_=>aa α) (g_ B x) (some p.2) (seq p.1 x)=_)
 rw [seq_eq]
 by_cases q:p.1=x<;>simp [q]
theorem qF{α:Type}{B:G (ar×α)}{a:α}(e:g_ B x=some a):(x,a)∈B:=by
 induction B with
 |nil=>exact aB e
 |cons p B O=>
  rw [JY] at e
  by_cases q:p.1=x
  .rw [bT q] at e
   obtain⟨y,b⟩:=p
   rw [show y=x from q,show b=a from aM e]
   exact .head _
  .rw [bk q] at e
   exact .tail _ (O e)
theorem Sf(e:g_ B x=none):B.any (λp=>p.1==x)=false:=by
 induction B with
 |nil=>rfl
 |cons p B O=>
  rw [JY] at e
  by_cases q:p.1=x
  .rw [bT q] at e;exact aB e.symm
  .rw [bk q] at e
   rw [qy,O e,mn.mpr q];rfl
theorem Top.DI(T:Top c w K W J mg mb){aq:H}(e:W.cls aq=some p):Qk K p.2 aq p.1:=by
 have I:=T.cls aq p e
 simp only [xa,tR,qG] at I
 obtain⟨⟨⟨⟨⟨⟨⟨c1,c2⟩,c3⟩,c4⟩,c5⟩,c6⟩,c7⟩,c8⟩:=I
 refine⟨c1,c2,c3,c4,c5,c6,λx hx=>?_,λx f hf=>?_⟩
 .have:=l9.mp c7 x hx
  rw [tR,qG] at this
  exact this
 .have:=l9.mp c8 _ (qF hf)
  simpa using this
theorem MJ(v:aw)(n:ar):v.isStr n=mY n v:=by
 cases v<;>first|rfl|(show(_==_)=(_==_);rfl)
theorem F3(x:h.DictOf (gE c w.w) d aR):∃od,h.get? d=some od/\∀n,vp n od=some (k8 aR n):=by
 refine dO x λE R ep ho bB=>eN bB λhx hd hk dA=>xA dA λhp hn=>?_
 refine⟨E,ho,λn=>?_⟩
 unfold vp
 rw [hd]
 dsimp only
 have e1:=hp.find n
 have e2:(R.toList.find? λe=>e.key.isStr n)=R.toList.find? λe=>(gE c w.w).is n e.key:=by
  congr 1
  funext e
  exact MJ e.key n
 rw [e2]
 cases q:R.toList.find? λe=>(gE c w.w).is n e.key with
 |some e=>rw [q] at e1;rw [<-e1];rfl
 |none=>
  rw [q] at e1
  have:R.toList.any (·.refKey)=false:=by
   rw [zc]
   intro e he
   refine ay (hk e (Ce.mp he)) λk h1 _=>?_
   refine bw (JQ h1) λt h2=>?_
   unfold DictEntry.refKey
   rw [h2]
   exact fY
  dsimp only
  rw [bk (by rw [this];exact fY),<-e1]
  rfl
theorem findObj_own(hd:(clsIn K aq).any (·.hasDict)=true)(hf:oC K (.ref aq) x=some none)(hl:vp x od=some (some v)):findObj K aq (some od) x=some (.value v):=by
 refine ay (any_some hd) λcd hc hh=>?_
 exact uj.mpr ⟨cd,hc,uj.mpr ⟨none,hf,uj.mpr ⟨none,rfl,uj.mpr ⟨false,rfl,uj.mpr ⟨some v,(bT hh).trans hl,rfl⟩⟩⟩⟩⟩
theorem XS(e:AR o i=some p):o.t.get i=some (.inst p.1 p.2):=by
 unfold AR at e
 generalize h:o.t.get i=ax at e
 cases ax with
 |none=>exact aB e
 |some E=>
  cases E with
  |inst aq d=>rw [<-aM e]
  |_=>exact aB e
theorem T8(e:dictAt o i=some R):o.t.get i=some (.dict R):=by
 unfold dictAt at e
 generalize h:o.t.get i=ax at e
 cases ax with
 |none=>exact aB e
 |some E=>
  cases E with
  |dict B=>rw [<-aM e]
  |_=>exact aB e
inductive IX(c:a_)(w:WB)(F C:G aA)(h:aP)(t:H×H×G (D×D))(v:aw):Prop
 |mk (a dx:aA):v=.ref a->h.get? a=some (u4 t.1 dx)->C[t.2.1]?=some dx->OR c w F C h dx (.dict t.2.2)->IX c w F C h t v
theorem J8(S:St c w J F C o s.heap)(e:attrsOf o v=some t)(vo:VR c w F C s.heap v E):IX c w F C s.heap t E:=by
 cases v with
 |ref i=>
  refine ay vo ?_;clear vo;intro a p1 aE;subst aE
  dsimp only [attrsOf] at e
  generalize e1:AR o i=ax at e
  cases ax with
  |none=>exact aB e
  |some p=>
   dsimp only at e
   generalize e2:dictAt o p.2=ax at e
   cases ax with
   |none=>exact aB e
   |some R=>
    rw [<-aM e]
    refine ay (S.ref p1 (XS e1)) λdx p2 g2=>?_
    exact⟨a,dx,rfl,g2,p2,S.ref p2 (T8 e2)⟩
 |_=>exact aB e
theorem SA(S:St c w J F C o s.heap)(e:(match attrsOf o (.ref i) with|some q=>(match ih q.2.2 (.str x) with|some r=>some (q.1,r)|.none=>.none)|.none=>.none)=some (aq,q))
  (vo:VR c w F C s.heap (.ref i) E):∃a ox od,E=.ref a/\InstAt s.heap a ox aq (some od)/\((q=none/\vp x od=some none)\/∃m u,q=some m/\vp x od=some (some u)/\VR c w F C s.heap m u):=by
 generalize e1:attrsOf o (.ref i)=ax at e
 cases ax with
 |none=>exact aB e
 |some t=>
  dsimp only at e
  generalize e3:ih t.2.2 (.str x)=ax at e
  cases ax with
  |none=>exact aB e
  |some r=>
   refine xA (iS (aM e)) λeJ aI=>?_;subst eJ;subst aI
   obtain⟨a,dx,rfl,g2,p2,r3⟩:=J8 S e1 vo
   refine xA (xh e3) λk1 k2=>?_
   refine fM (tJ r3 k1) λaR d1 u _=>?_
   refine ay (F3 d1) λod ho hl=>?_
   refine⟨a,_,od,rfl,⟨g2,rfl,rfl,ho⟩,?_⟩
   rcases rB oJ x u with⟨z1,z2⟩|⟨m,v',z1,z2,z3⟩
   .exact .inl ⟨k2.symm.trans z1,by rw [hl,z2]⟩
   .exact .inr ⟨m,v',k2.symm.trans z1,by rw [hl,z2],z3⟩
theorem N7(S:St c w J F C o s.heap)(e:ownAt o v x=some (aq,q))(vo:VR c w F C s.heap v E):
  ∃a ox od,E=.ref a/\InstAt s.heap a ox aq (some od)/\((q=none/\vp x od=some none)\/∃m u,q=some m/\vp x od=some (some u)/\VR c w F C s.heap m u):=by
 unfold ownAt at e
 cases v with
 |aD I B=>
  cases I with
  |inst C' ks=>
   dsimp only at e
   generalize e1:pK ks B x=ax at e
   cases ax with
   |none=>exact aB e
   |some r=>
    cases e
    refine dO vo λa d V bU bB=>eN bB λ_ _ g dA=>cf dA λd1 _ y=>?_;rw [bU]
    refine ay (F3 d1) λod ho hl=>?_
    refine⟨a,_,od,rfl,⟨g,rfl,rfl,ho⟩,?_⟩
    rcases Lx e1 y with⟨z1,z2⟩|⟨m,v',z1,z2,z3⟩
    .exact .inl ⟨z1,by rw [hl,z2]⟩
    .exact .inr ⟨m,v',z1,by rw [hl,z2],z3⟩
  |_=>exact aB e
 |ref i=>exact SA S e vo
 |_=>exact aB e
theorem L8(e:handed m=some m')(x:VR c w F C h m v):m=m'/\handedIn v=true:=by
 cases m with
 |bi b=>exact aB e
 |any=>exact aB e
 |tok i=>cases e;exact⟨rfl,w.hand x⟩
 |none=>cases e;subst x;exact⟨rfl,rfl⟩
 |bool b=>cases e;subst x;exact⟨rfl,rfl⟩
 |int b=>cases e;obtain⟨t,rfl⟩:=x;exact⟨rfl,rfl⟩
 |str b=>cases e;obtain⟨⟨t,rfl⟩,_⟩:=x;exact⟨rfl,rfl⟩
 |tup b=>cases e;obtain⟨a,V,n,rfl,_⟩:=x;exact⟨rfl,rfl⟩
 |ref b=>cases e;obtain⟨a,_,rfl⟩:=x;exact⟨rfl,rfl⟩
 |fn b=>cases e;subst x;exact⟨rfl,rfl⟩
 |fuel b=>cases e;obtain⟨i,t,rfl,_⟩:=x;exact⟨rfl,rfl⟩
 |aD I B=>cases e;refine⟨rfl,?_⟩;cases I<;>(first|(obtain⟨a,V,n,rfl,_⟩:=x;rfl)|(obtain⟨a,V,rfl,_⟩:=x;rfl))
theorem Py(T:Top c w K W J mg mb)(x:VR c w F C h m v):VR c w F C h (yO W m) v:=by
 cases m with
 |tok i=>
  unfold yO
  dsimp only
  cases e:W.rz i with
  |none=>exact x
  |some m=>
   exact T.rz i m F C h v e x
 |_=>exact x
theorem ZV(e:Gf x B=true):x∈B:=by
 induction B with
 |nil=>exact bz e
 |cons a B O=>
  have e':@bN (λ_=>ah) (Gf x B) true (seq a x)=true:=e
  rw [seq_eq] at e'
  by_cases q:a=x
  .exact q▸.head _
  .rw [jf q] at e'
   exact .tail _ (O e')
theorem NH(I:Bc W aq x=true):∃ms,W.cls aq=some ms/\x∈ms.2:=by
 unfold Bc at I
 generalize cl:W.cls aq=ax at I
 cases ax with
 |none=>exact bz I
 |some ms=>exact⟨ms,rfl,ZV I⟩
theorem Wb(T:Top c w K W J mg mb)(S:St c w J F C o s.heap)(e:EA o W v x=some m)(vo:VR c w F C s.heap v E):
  bc c w Y own C s (getAttr E x true) (λr ao M=>VR c w F ao M m r/\ao=C/\M=s.heap):=by
 unfold EA at e
 cases e1:ownAt o v x with
 |none=>rw [e1] at e;exact aB e
 |some p=>
  obtain⟨aq,q⟩:=p
  rw [e1] at e
  dsimp only at e
  cases q with
  |none=>exact aB e
  |some m'=>
   dsimp only at e
   refine xA (bI e) λI e=>?_
   refine dO (N7 S e1 vo) λa ox od bU bB=>xA bB λbl r=>?_;subst bU
   rcases r with⟨z,_⟩|⟨Zh,u,z1,z2,z3⟩
   .exact ql z
   .cases z1
    refine xA (L8 e z3) λeJ hh=>?_;rw [<-eJ]
    refine ay (NH I) λms cl hx=>?_
    have ci:=T.DI cl
    refine eN (T.ns S) λ_ _ pW _=>?_
    exact λQ au k=>get_value pW bl ci.ga (findObj_own ci.dict (ci.field x hx).2 z2) hh (k u C s.heap (s.toks+1) (.refl ..) ⟨z3,rfl,rfl⟩)
theorem ZY(T:Top c w K W J mg mb)(S:St c w J F C o s.heap)(e:A7 o W v x=some f)(vo:VR c w F C s.heap v E):
  ∃a,E=.ref a/\∀(Q:aw×G aw->aT->Prop) (au:aw->aT->Prop),Q (.ref f,[.ref a]) s->bo (bK c w.w) Y (getMethod E x pl) Q au s:=by
 unfold A7 at e
 cases e1:ownAt o v x with
 |none=>rw [e1] at e;exact aB e
 |some p=>
  obtain⟨aq,q⟩:=p
  rw [e1] at e
  dsimp only at e
  cases q with
  |some m'=>exact aB e
  |none=>
   dsimp only at e
   generalize cl:W.cls aq=ax at e
   cases ax with
   |none=>exact aB e
   |some ms=>
    refine dO (N7 S e1 vo) λa ox od bU bB=>xA bB λbl r=>?_;subst bU
    rcases r with⟨_,z⟩|⟨Zh,u,z1,z2,z3⟩
    .have ci:=T.DI cl
     refine eN (T.ns S) λ_ _ pW _=>?_
     refine xA (ci.yc x f e) λm1 m2=>?_
     exact⟨a,rfl,λQ au k=>method_fn pW bl ci.ga ci.gm m1 m2 (by unfold shadowIn;dsimp only;rw [z];rfl) k⟩
    .exact aB z1
end
section
set_option tactic.hygienic true
section
variable{ag:Type}{Z:cU ag}{ae:ag->Prop}{c:a_}{w:WB}{Y:bG}{own F C:G aA}{s:aT}{J h M:aP}{o:MH}{K:b8}{W:bQ}{mg mb:ar->aa aw}
theorem D6(p:D×D)(R:G (D×D))(x v:D):sq (p::R) x v=if iz p.1 x=true then(p.1,v)::R else p::sq R x v:=by
 refine(?_:@bN (λ_=>G (D×D)) (p::sq R x v) ((p.1,v)::R) (iz p.1 x)=_)
 cases iz p.1 x<;>rfl
theorem OU{L:Type} [jw L](k':L)(v':aw)(r:G (L×aw))(k:L)(v:aw)(hn:(((k',v')::r).map (·.1)).Nodup):j_ ((k',v')::r) k v=if k'=k then(k',v)::r else(k',v')::j_ r k v:=by
 unfold j_
 by_cases q:k'=k
 .subst q
  have:k'∉r.map (·.1):=(ic.mp (by simpa using hn)).1
  have e:=map_store_of_not_mem r k' v this
  simp [e]
 .simp only [qy,jf q,Cf,bk q,lj,Jf]
  exact(apply_ite _ _ _ _).symm
theorem yP{L:Type} [jw L]{key:L->D}(hk:∀a b,iz (key a) (key b)=decide (a=b)){k:L}(x:P m v){aR:G (L×aw)}(u:Under P key R aR):
  (aR.map (·.1)).Nodup->Under P key (sq R (key k) m) (j_ aR k v):=by
 induction u with
 |nil=>intro _;exact .cons x .nil
 |@cons k' m' v' B r a b O=>
  intro hn
  rw [D6,OU _ _ _ _ _ hn]
  dsimp only
  rw [hk]
  by_cases q:k'=k
  .rw [bT (ix q),bT q];exact .cons x b
  .rw [bk (by rw [jf q];exact fY),bk q]
   exact .cons a (O (ic.mp (by simpa using hn)).2)
theorem Un(x v:D)(R:G (D×D)):(sq R x v).length<=R.length+1:=by
 induction R with
 |nil=>exact fG _
 |cons p R O=>
  rw [D6]
  split
  .exact ue _
  .exact n4 O
theorem sj{L:Type} [jw L]{fS:KeyKind c w.w L}{aR:G (L×aw)}(x:h.DictOf fS a aR):(aR.map (·.1)).Nodup:=x.elim λ_ x=>x.elim λ_ x=>x.elim λ_ x=>x.2.2.2.2.2
theorem HL{L:Type} [jw L](k:L)(v:aw)(aR:G (L×aw)):∀p∈j_ aR k v,p.1=k\/∃q∈aR,q.1=p.1:=by
 intro p hp
 unfold j_ at hp
 split at hp
 .refine ay (cF.mp hp) λq hq e=>?_
  split at e
  .rename_i z;subst e;exact .inl z
  .subst e;exact .inr ⟨q,hq,rfl⟩
 .refine dC (dI.mp hp) (λhp=>?_) λhp=>?_
  .exact .inr ⟨p,hp,rfl⟩
  .rw [cA.mp hp];exact .inl rfl
inductive PH{ag:Type}(ae:ag->Prop)(c:a_)(w:WB)(J:aP)(F:G aA)(k:MH->ag)(_u:mX)(ao:G aA)(M:aP):Prop
 |mk (br:MH):ae (k br)->St c w J F ao br M->PH ae c w J F k _u ao M
theorem qg(Zk:bZ Z ae)(S:St c w J F C o h)(e:ae (nN Z o i E k))(hi:C[i]?=some a)(hs:iC a h M)(ho:iB E=true->bh [] C h C M->OR c w F C M a E):
  bh [] C h C M/\PH ae c w J F k () C M:=by
 have e':ae (@bN (λ_=>ag) Z.fail (k ⟨o.t.set i E,o.n⟩) (iB E)):=e
 refine xA (iU (x:=Z.fail) Zk e') λI pG=>?_
 refine xA (S.put hi hs (ho I)) λst S'=>?_
 exact⟨st,_,pG,S'⟩
theorem z_(e:dput R x v=some dD):keysOk R x=true/\dD=sq R x v:=by
 unfold dput at e
 generalize I:keysOk R x=ax at e
 cases ax with
 |false=>exact aB e
 |true=>cases e;exact⟨rfl,rfl⟩
theorem jk(h:n<=4096):n<=rp:=rr (by exact dQ (by assumption) (by decide))
theorem aW.set(x:VR c w F C h m v):∀{V:G aw} (n:H),aW c w F C h B V->aW c w F C h (B.set n m) (V.set n v):=by
 induction B with
 |nil=>exact λn y=>y.dW▸.nil
 |cons a B O=>
  intro V n y
  refine dR.el y.cj λu r aE y1 y2=>?_;subst aE
  cases n with
  |zero=>exact .cons x y2
  |succ n=>exact .cons y1 (O n y2)
theorem aci(Zk:bZ Z ae)(S:St c w J F C o s.heap){ov i m:D}{q:H×cL}{k:MH->ag}(e:putItem o ov i m=some q)(e':ae (nN Z o q.1 q.2 k))(vx:VR c w F C s.heap ov x)(vy:VR c w F C s.heap i y)(vz:VR c w F C s.heap m z):
  bc c w Y own C s (setItem x y z) (PH ae c w J F k):=by
 unfold putItem at e
 cases ov with
 |ref j=>
  dsimp only at e
  generalize e1:o.t.get j=ax at e
  cases ax with
  |none=>exact aB e
  |some E=>
   cases E with
   |dict R=>
    dsimp only at e
    generalize e2:dput R i m=ax at e
    cases ax with
    |none=>exact aB e
    |some dD=>
     cases e
     refine xA (z_ e2) λk1 aI=>?_;subst aI
     refine iZ (uB S (R:=R) (by unfold dictAt;rw [e1]) vx) λa p1 aE o1 _=>?_;subst aE
     have kk:=vc _ _ k1
     intro Q au g
     cases i with
     |str n=>
      obtain⟨⟨t,rfl⟩,so⟩:=vy
      refine iZ (tJ o1 k1) λaR d1 u sk ln=>?_
      refine afA (knd:=gE c w.w) (k:=n) (by simp [gE,mY]) d1 (λM hd hs=>?_) (jk (by rw [<-u.length];exact ln))
      have HC:∀p∈j_ aR n z,g8 p.1=true:=λp hp=>by
       rcases HL _ _ _ p hp with q|⟨q,hq,e⟩
       .exact q▸so
       .exact e▸sk q hq
      refine xA (qg (M:=M) Zk S e' p1 hs (λI st=>⟨.inl ⟨_,hd,(yP oJ vz u (sj d1)).imp λm v=>VR.step st,HC⟩,j4 I⟩)) λst r=>?_
      exact g () C M _ st.any r
     |int n=>
      refine bw vy ?_;clear vy;intro t aI;subst aI
      refine fM (xQ o1 k1) λaR d1 u ln=>?_
      refine afA (knd:=lE c w.w) (k:=n) (by simp [lE,zC]) d1 (λM hd hs=>?_) (jk (by rw [<-u.length];exact ln))
      refine xA (qg (M:=M) Zk S e' p1 hs (λI st=>⟨.inr ⟨_,hd,(yP sV vz u (sj d1)).imp λm v=>VR.step st⟩,j4 I⟩)) λst r=>?_
      exact g () C M _ st.any r
     |_=>exact bz kk
   |list b r=>
    dsimp only at e
    cases i with
    |int zi=>
     cases zi with
     |ofNat n=>
      dsimp only at e
      refine xA (bI e) λI e=>?_
      have e:=aM e
      subst e
      have I:n<r.length:=dw I
      refine ay vx ?_;clear vx;intro a p1 aE;subst aE
      refine bw vy ?_;clear vy;intro t aI;subst aI
      refine eK (S.ref p1 e1) λV nn g y1 l1 l2=>?_
      have hl:V.size=r.length:=by
       have:=y1.length
       rw [ez] at this
       exact this
      intro Q au q'
      refine PySem.W.ki_setAt (items:=V) (n:=nn) g (by show(0:ba)<=(n:ba);lia) (by show(n:ba)<2^63;lia) (by show(n:ba)<(V.size:ba);lia) ?_
      have g':=za (fi (·.setIfInBounds n z)) g rfl
      obtain⟨st,r'⟩:=qg (M:=s.heap.update a (fi (·.setIfInBounds n z))) Zk S e' p1 (o8 ..) (λI st=>oK I g' (by
       rw [fD,fD,Array.toList_setIfInBounds]
       have y2:=(y1.step st).reverse
       rw [mU] at y2
       exact(aW.set (vz.step st) n y2).reverse) (by rw [fD,fD,ez,List.length_set,ez];exact l1))
      exact q' () C _ _ st.any r'
     |negSucc n=>nomatch e
    |_=>nomatch e
   |_=>exact aB e
 |_=>exact aB e
theorem ack(Aw:mY name key=true)(hash:ba)(p:Pairs (gE c w.w) R aR):(aR.map (·.1)).Nodup->
  Pairs (gE c w.w) (tc name.cps.size name.cps.toList (λ|some e=>{e with val:=v}|none=>⟨hash,key,v⟩) R).1 (j_ aR name v):=by
 induction p with
 |nil=>intro _;exact .cons Aw rfl .nil
 |@cons e kv R aR h1 h2 p O=>
  intro hn
  obtain⟨k',v'⟩:=kv
  rw [OU _ _ _ _ _ hn]
  unfold tc
  rw [Value.isStrByCps_eq,MJ]
  have WY:mY name e.key=decide (k'=name):=by
   have:=KeyKind.is_eq_decide (knd:=gE c w.w) h1 name
   rw [show mY name e.key=(gE c w.w).is name e.key from rfl,this]
   by_cases q:name=k'
   .rw [ix q,ix q.symm]
   .rw [jf q,jf (λz=>q z.symm)]
  rw [WY]
  by_cases q:k'=name
  .rw [bT (ix q),bT q]
   exact .cons h1 rfl p
  .rw [bk (by rw [jf q];exact fY),bk q]
   exact .cons h1 h2 (O (ic.mp (by simpa using hn)).2)
theorem acj{name:ar}{hash:ba}(P:tU->Prop)(h0:P ⟨hash,key,v⟩)(h1:∀e,P e->P {e with val:=v}):(∀e∈R,P e)->
  ∀e∈(tc name.cps.size name.cps.toList (λ|some e=>{e with val:=v}|none=>⟨hash,key,v⟩) R).1,P e:=by
 induction R with
 |nil=>
  intro _ e he
  rw [tc] at he
  rw [cA.mp he];exact h0
 |cons I r O=>
  intro hc e he
  unfold tc at he
  refine X_ (P:=λx:G tU×ah=>e∈x.1->P e) (λ_ he=>?_) (λ_ he=>?_) he
  .exact(bY.mp he).elim (λq=>q▸h1 _ (hc _ (.head _))) λhe=>hc _ (.tail _ he)
  .exact(bY.mp he).elim (λq=>q▸hc _ (.head _)) λhe=>O (λe he=>hc e (.tail _ he)) e he
theorem aaJ{d:aA}{v:aw}(hd:s.heap.DictOf (gE c w.w) d aR)(hz:aR.length<=4096)
  (h:∀M,M.DictOf (gE c w.w) d (j_ aR name v)->iC d s.heap M->Q () {s with heap:=M,toks:=s.toks+1}):bo (bK c w.w) Y (nsSet d name v) Q au s:=by
 refine dO hd λE R ep ho bB=>eN bB λhx Mb hk dA=>xA dA λhp hn=>?_
 obtain⟨oc,od,agV,agW⟩:=E
 refine cf hx λx1 x2 x3=>?_
 simp only at x1 x2 x3 Mb
 subst x1 x2 x3 Mb
 have Aw:mY name (.str name s.toks)=true:=by simp [mY]
 have pp:=ack (c:=c) (w:=w) (v:=v) Aw (Aq w.w name) hp hn
 have pk:=acj (name:=name) (key:=.str name s.toks) (v:=v) (hash:=Aq w.w name) (λe=>∃k,(gE c w.w).is k e.key=true/\e.hash=(gE c w.w).hash k) ⟨name,Aw,rfl⟩ (λe he=>he)
  (R:=R.toList) (λe he=>hk e (Ce.mp he))
 have aaF:∀e∈R.toList,e.refKey=false:=λe he=>by
  refine ay (hk e (Ce.mp he)) λk h1 _=>?_
  refine bw (JQ h1) λt h2=>?_
  unfold DictEntry.refKey
  rw [h2]
 have ll:(j_ aR name v).length<=aR.length+1:=by
  unfold j_
  split<;>simp
 have aaC:((j_ aR name v).map (·.1)).Nodup:=by
  unfold j_
  split
  .have:(aR.map λkv=>if kv.1=name then(kv.1,v) else kv).map (·.1)=aR.map (·.1):=by
    rw [zk]
    apply QS
    intro kv _
    dsimp only [Function.comp]
    split<;>rfl
   rw [this];exact hn
  .rename_i q
   rw [rN,wD]
   refine⟨hn,by simp,λx hx y hy=>?_⟩
   simp only [lj,List.map_nil,cA] at hy
   obtain rfl:=hy.symm
   rintro rfl
   refine ay (cF.mp hx) λkv h1 h2=>?_
   exact q (zd.mpr ⟨kv,h1,by simpa using h2⟩)
 unfold nsSet
 refine aO (aO (wpAny_askSetting (bX (aO (wpAny_mkText (aO (wpAny_loadPart ho ?_)))))))
 dsimp only
 have I:(!R.any (·.key.isStr name)&&R.any (·.refKey))=false:=by
  have:R.any (·.refKey)=false:=by
   rw [<-P9,zc]
   exact λe he=>by rw [aaF e he];exact fY
  rw [this,Qe]
 rw [aRefKeyMayBeTheName_at,I]
 refine wpAny_updatePart ho ?_
 refine h _ ?_ (o8 ..)
 have fo:∃n',Obj.putName name (if name.cps.isEmpty=true then 0 else reduceHash ((bK c w.w).w.params.strHash name.cps)) (.str name s.toks) v {cls:=.type "dict",dict:=none,data:=.dict R ep,slots:=#[]}=
   {cls:=.type "dict",dict:=none,data:=.dict (tc name.cps.size name.cps.toList (λ|some e=>{e with val:=v}|none=>⟨Aq w.w name,.str name s.toks,v⟩) R.toList).1.toArray n',slots:=#[]}:=by
  unfold Obj.putName
  dsimp only
  split
  .rename_i dD q;exact⟨ep,by rw [show(tc name.cps.size name.cps.toList (λ|some e=>{e with val:=v}|none=>⟨Aq w.w name,.str name s.toks,v⟩) R.toList)=(dD,false) from q]⟩
  .rename_i dD q;exact⟨ep+1,by rw [show(tc name.cps.size name.cps.toList (λ|some e=>{e with val:=v}|none=>⟨Aq w.w name,.str name s.toks,v⟩) R.toList)=(dD,true) from q]⟩
 refine bw fo ?_;clear fo;intro n' fo
 refine⟨_,_,n',(za _ ho (by rw [fo];rfl)).trans (cq some fo),⟨rfl,rfl,rfl⟩,rfl,λe he=>?_,by simpa using pp,aaC⟩
 exact pk e (by simpa using he)
theorem acg(Zk:bZ Z ae)(T:Top c w K W J mg mb)(S:St c w J F C o s.heap){ov m:D}{x z:aw}{q:H×cL}(e:Hi o W ov m n=some q)(e':ae (nN Z o q.1 q.2 k))
  (vx:VR c w F C s.heap ov x) (vz:VR c w F C s.heap m z):bc c w Y own C s (setAttr x n z) (PH ae c w J F k):=by
 unfold Hi at e
 generalize e1:attrsOf o ov=ax at e
 cases ax with
 |none=>exact aB e
 |some t=>
  dsimp only at e
  refine xA (bI e) λI e=>?_
  generalize e2:dput t.2.2 (.str n) m=ax at e
  cases ax with
  |none=>exact aB e
  |some dD=>
   have e:=aM e
   subst e
   refine xA (z_ e2) λk1 aI=>?_;subst aI
   obtain⟨a,dx,rfl,g2,p2,r3⟩:=J8 S e1 vx
   refine iZ (tJ r3 k1) λaR d1 u sk ln=>?_
   refine ay (F3 d1) λod ho hl=>?_
   have bl:InstAt s.heap a (u4 t.1 dx) t.1 (some od):=⟨g2,rfl,rfl,ho⟩
   refine ay (NH I) λms cl hx=>?_
   have ci:=T.DI cl
   have so:=(ci.field n hx).1
   refine eN (T.ns S) λ_ _ pW _=>?_
   intro Q au g
   refine set_plain pW bl ci.sa ?_
   have ht:takerIn K t.1 n=some none:=by unfold takerIn;rw [(ci.field n hx).2];rfl
   refine osa_open (s:={s with toks:=s.toks+1}) pW bl ci.plain ht λb=>?_
   refine ay (any_some ci.dict) λcd hc WH=>?_
   have HC:∀p∈j_ aR n z,g8 p.1=true:=λp hp=>by
    rcases HL _ _ _ p hp with q|⟨q,hq,e⟩
    .exact q▸so
    .exact e▸sk q hq
   refine aO (bX (aO (aO (wpAny_loadPart g2 (aO ((looks_clsIn pW hc) _ _ _ _ (λ_ _ e=>e) ?_))))))
   rw [WH]
   refine bX (a:=some dx) (aO (bX (aO ?_)))
   refine aaJ (s:={s with toks:=s.toks+1}) d1 (by rw [<-u.length];exact ln) λM uQ pQ=>?_
   have Xh:iC dx s.heap M:=pQ
   refine xA (qg (h:=s.heap) (M:=M) Zk S e' p2 Xh (λI st=>⟨.inl ⟨_,uQ,(yP oJ vz u (sj d1)).imp λm v=>VR.step st,HC⟩,j4 I⟩)) λst r=>?_
   refine dO uQ λo' Vb U4 WT bB=>eN bB λE6 WG _ dA=>xA dA λgU _=>?_
   have hz:Vb.size<=rp+1:=by
    have l1:=gU.length
    rw [hX] at l1
    have l2:(j_ aR n z).length<=aR.length+1:=by unfold j_;split<;>simp
    rw [l1,rq]
    rw [u.length] at ln
    lia
   exact aO (wpAny_lookBehind WT (by rw [WG];exact pastItsLine_dict hz) (bX (g () C M _ st.any r)))
end
end
section
variable{ag:Type}{Z:cU ag}{ae:ag->Prop}{c:a_}{w:WB}{Y:bG}{own F C:G aA}{s:aT}{J h M:aP}{o:MH}{K:b8}{W:bQ}{mg mb:ar->aa aw}
theorem Ss(Zk:bZ Z ae)(S:St c w J F C o s.heap)(e:ae (nN Z o i (.list (b+1) (m::r)) λo=>k .none o))(hi:C[i]?=some a)(E:OR c w F C s.heap a (.list b r))(x:VR c w F C s.heap m v):
  bc c w Y own C s (call (.builtin "list.append") [.ref a,v]) (PV ae c w J F k):=by
 refine eK E λV n g y B l4=>?_
 intro Q au q
 have sz:=y.length
 rw [ez,hX] at sz
 refine afx ⟨n,g⟩ (λM hp hs=>?_) (rr (by lia))
 refine bw hp λn' g'=>?_
 obtain⟨st,br,e',S'⟩:=qg (M:=M) Zk S e hi hs (λI st=>oK I g' (by rw [IW,zm];exact .cons (x.step st) (y.step st)) (by simpa using B))
 exact q _ C M _ st.any ⟨_,br,e',S',by rfl⟩
theorem ZE(ML MM:dS aw)(n:H):∃n',fi (λx=>x++MM) {cls:=.type "list",dict:=none,data:=.seq ML n,slots:=#[]}={cls:=.type "list",dict:=none,data:=.seq (ML++MM) n',slots:=#[]}:=⟨_,rfl⟩
theorem Vo(Zk:bZ Z ae)(S:St c w J F C o s.heap)(e:ae (nN Z o i (.list (b+I) (app r2 r)) λo=>k .none o))(hi:C[i]?=some a)(E:OR c w F C s.heap a (.list b r))
  (o2:∃V n,s.heap.get? a2=some (fT V n)/\aW c w F C s.heap r2 V.toList.reverse/\r2.length<=I/\I<=4096):
  bc c w Y own C s (call (.builtin "list.extend") [.ref a,.ref a2]) (PV ae c w J F k):=by
 refine eK E λV n g y B l4=>?_
 refine eK o2 λws n2 g2 y2 l2 agI=>?_
 intro Q au q
 have sz:=y.length
 have aej:=y2.length
 rw [ez,hX] at sz aej
 have hz:V.size+ws.size<=rp:=rr (by lia)
 refine w9 RM ⟨_,g,rfl⟩ PySem.F.entry_list_extend (PySem.F.args_list_extend_2 _ _) (AutoSeq1.list_extend_list_list_0 a V n a2 ws n2 (extend_door hz) (dQ (ig _ _) hz)) ⟨g,g2,?_⟩
 refine bw (ZE V ws n) λn' hm=>?_
 have g':(s.heap.update a (fi λx=>x++ws)).get? a=some (fT (V++ws) n'):=(za _ g (by rw [hm];rfl)).trans (cq some hm)
 obtain⟨st,br,e',S'⟩:=qg (M:=s.heap.update a (fi λx=>x++ws)) Zk S e hi (o8 ..) (λI st=>oK I g' (by rw [gM,Array.toList_append,zm];exact(y2.step st).append (y.step st)) (by rw [zL];lia))
 exact q _ C _ s.toks st.any ⟨_,br,e',S',by rfl⟩
theorem ab7(Zk:bZ Z ae)(S:St c w J F C o s.heap)(e:ae (nN Z o i (.list (b-1) r) λo=>k m o))(hi:C[i]?=some a)(E:OR c w F C s.heap a (.list b (m::r))):
  bc c w Y own C s (call (.builtin "list.pop") [.ref a]) (PV ae c w J F k):=by
 refine eK E λV n g y B l4=>?_
 intro Q au q
 have sz:=y.length
 rw [ez,hX] at sz
 refine dR.el y.cj λv p e1 y1 y2=>?_
 have ev:V=(p.reverse++[v]).toArray:=by
  have:V.toList=p.reverse++[v]:=by
   have:=cq List.reverse e1
   simpa using this
  rw [<-this,IV]
 subst ev
 have hz:(p.reverse++[v]).toArray.size<=rp:=rr (by lia)
 have hk:(p.reverse++[v]).toArray.size-1=p.reverse.length:=by rw [t8,fy];rfl
 have hy:(p.reverse++[v]).toArray[(p.reverse++[v]).toArray.size-1]?=some v:=by rw [hk];simp
 refine w9 RN ⟨_,g,rfl⟩ PySem.F.entry_list_pop (PySem.F.args_list_pop_1 _) (PySem.MeetsSeq.list_pop_last a _ n v hy hz) ⟨g,?_⟩
 have hm:∃n',fi (λxs=>xs.eraseIdxIfInBounds ((p.reverse++[v]).toArray.size-1)) (fT (p.reverse++[v]).toArray n)=fT p.reverse.toArray n':=by
  have:∀f:dS aw->dS aw,∃n',fi f (fT (p.reverse++[v]).toArray n)=fT (f (p.reverse++[v]).toArray) n':=λf=>⟨_,rfl⟩
  refine bw (this λxs=>xs.eraseIdxIfInBounds ((p.reverse++[v]).toArray.size-1)) λn' e=>?_
  refine⟨n',e.trans ?_⟩
  rw [hk,kl_erase,h_]
 refine bw hm ?_;clear hm;intro n' hm
 have g':(s.heap.update a (fi λxs=>xs.eraseIdxIfInBounds ((p.reverse++[v]).toArray.size-1))).get? a=some (fT p.reverse.toArray n'):=(za _ g (by rw [hm];rfl)).trans (cq some hm)
 obtain⟨st,br,e',S'⟩:=qg (M:=s.heap.update a (fi λxs=>xs.eraseIdxIfInBounds ((p.reverse++[v]).toArray.size-1))) Zk S e hi (o8 ..) (λI st=>oK I g' (by simpa using y2.step st) (by simp only [iQ] at B;lia))
 exact q _ C _ s.toks st.any ⟨_,br,e',S',y1.step st⟩
theorem LM(T:Top c w K W J mg mb)(S:St c w J F C o s.heap)(e:dictGet o d i=some q)(em:m=match q with|some u=>u|.none=>x)(vd:VR c w F C s.heap d dv)(vi:VR c w F C s.heap i iv)(vx:VR c w F C s.heap x xv):
  bc c w Y own C s (call (.builtin "dict.get") [dv,iv,xv]) (λr ao M=>VR c w F ao M m r/\ao=C/\M=s.heap):=by
 obtain⟨a,L,dl,fS,aR,key,rfl,ns,hk,hd,r⟩:=DV T S e vd vi
 intro Q au g
 refine zQ RL hd.typeIs PySem.F.entry_dict_get (PySem.F.args_dict_get_3 _ _ _) (meets_dict_get_default fS a hk ns xv) ⟨_,hd.mapOf,?_⟩
 refine g _ C s.heap (s.toks+1) (.refl ..) ⟨?_,rfl,rfl⟩
 rcases r with⟨rfl,r⟩|⟨m',u,rfl,r,hv⟩
 .rw [r];subst em;exact vx
 .rw [r];subst em;exact hv
end
section
variable{ag:Type}{Z:cU ag}{ae:ag->Prop}{c:a_}{w:WB}{Y:bG}{own F C:G aA}{s:aT}{J h M:aP}{o:MH}{K:b8}{W:bQ}{mg mb:ar->aa aw}
noncomputable def Me.id:Me->C8
 |.append=>"list.append" |.extend=>"list.extend" |.A4=>"list.pop" |.ih=>"dict.get" |.xi=>"dict.pop" |.join=>"str.join" |.split=>"str.split"
theorem T_{L:Type} [jw L]{fS:KeyKind c w.w L}{aR:G (L×aw)}(x:h.DictOf fS a aR):∃ob,h.get? a=some ob/\ob.dict=none/\ob.cls=.type "dict" :=
 x.imp λ_ x=>x.elim λ_ x=>x.elim λ_ x=>⟨x.1,x.2.1.2.1,x.2.1.1⟩
theorem acx(S:St c w J F C o s.heap){v:D}{m:Me}(e:Hl o v x=some m)(vo:VR c w F C s.heap v E)(Q:aw×G aw->aT->Prop)(au:aw->aT->Prop)(q:Q (.builtin m.id,[E]) s):
  bo (bK c w.w) Y (getMethod E x pl) Q au s:=by
 have ld:∀{a:aA} {L:Type} [jw L] {fS:KeyKind c w.w L} {aR:G (L×aw)},s.heap.DictOf fS a aR->E=.ref a->(x,m)∈[(Hu,Me.ih),(s_pop,.xi)]->bo (bK c w.w) Y (getMethod E x pl) Q au s:=by
  intro a L _ fS aR d eo hm
  subst eo
  refine fM (T_ d) λob h1 h2 h3=>?_
  have ty:s.TypeIs (.ref a) "dict" :=⟨ob,h1,h3⟩
  have hd:∀b,og a=.ref b->∃E,s.heap.get? b=some E/\E.dict=none:=λb e=>by cases e;exact⟨ob,h1,h2⟩
  simp only [bY,eP,gH,JG] at hm
  rcases hm with⟨rfl,rfl⟩|⟨rfl,rfl⟩
  .exact uO ty RJ RL PySem.F.type_dict_get hd q
  .exact uO ty RJ zx PySem.F.type_dict_pop hd q
 unfold Hl at e
 cases v with
 |ref i=>
  dsimp only at e
  refine ay vo λa p1 eo=>?_
  refine ay (S.at_ i a p1) λob g1 r1=>?_
  rw [g1] at e
  cases ob with
  |list b r=>
   have hm:=qF (e:g_ _ x=some m)
   refine jv r1 λV n g _=>?_
   subst eo
   have ty:s.TypeIs (.ref a) "list" :=⟨_,g,rfl⟩
   have hd:∀b,og a=.ref b->∃E,s.heap.get? b=some E/\E.dict=none:=λb e=>by cases e;exact⟨_,g,rfl⟩
   simp only [bY,eP,gH,JG] at hm
   rcases hm with⟨rfl,rfl⟩|⟨rfl,rfl⟩|⟨rfl,rfl⟩
   .exact uO ty JK PySem.F.slot_list_append PySem.F.type_list_append hd q
   .exact uO ty JK RM PySem.F.type_list_extend hd q
   .exact uO ty JK RN PySem.F.type_list_pop hd q
  |dict R=>
   have hm:=qF (e:g_ _ x=some m)
   obtain⟨⟨aR,d,_⟩|⟨aR,d,_⟩,_⟩:=r1
   .exact ld d eo hm
   .exact ld d eo hm
  |_=>exact aB e
 |aD I B=>
  cases I with
  |dict ks=>
   have hm:=qF (e:g_ _ x=some m)
   refine eK vo λa V eo _ ns bB=>cf bB λd1 _ y=>?_
   exact ld d1 eo (by simp only [bY,eP,gH] at hm⊢;exact .inl hm)
  |_=>exact aB e
 |str z=>
  have hm:=qF (e:g_ _ x=some m)
  obtain⟨⟨t,rfl⟩,so⟩:=vo
  have hd:∀b,Value.str z t=.ref b->∃E,s.heap.get? b=some E/\E.dict=none:=λb e=>nomatch e
  simp only [bY,eP,gH,JG] at hm
  rcases hm with⟨rfl,rfl⟩|⟨rfl,rfl⟩
  .exact uO (Po _ _ _) RK PySem.F.slot_str_join PySem.F.type_str_join hd q
  .exact uO (Po _ _ _) RK RO PySem.F.type_str_split hd q
 |_=>exact aB e
theorem KL(p:D×D)(R:G (D×D))(x:D):se (p::R) x=if iz p.1 x=true then R else p::se R x:=by
 refine(?_:@bN (λ_=>G (D×D)) (p::se R x) R (iz p.1 x)=_)
 cases iz p.1 x<;>rfl
theorem agc(x:D)(R:G (D×D)):(se R x).length<=R.length:=by
 induction R with
 |nil=>exact fG _
 |cons p R O=>
  rw [KL]
  split
  .exact ue _
  .exact n4 O
theorem PA{L:Type} [jw L]{key:L->D}(hk:∀a b,iz (key a) (key b)=decide (a=b)){k:L}{aR:G (L×aw)}(u:Under P key R aR):
  (aR.map (·.1)).Nodup->Under P key (se R (key k)) (yT aR k):=by
 induction u with
 |nil=>intro _;exact .nil
 |@cons k' m' v' B r a b O=>
  intro hn
  have xH:(r.map (·.1)).Nodup:=(ic.mp (by simpa using hn)).2
  have ni:k'∉r.map (·.1):=(ic.mp (by simpa using hn)).1
  rw [KL]
  dsimp only
  rw [hk]
  by_cases q:k'=k
  .rw [bT (ix q)]
   rw [<-q]
   have:yT ((k',v')::r) k'=r:=by
    unfold yT
    rw [QI]
    simp only [ne_eq,not_true_eq_false,T5,Bool.false_eq_true,if_false]
    rw [Jh]
    intro p hp
    exact ix λe=>ni (e▸cF.mpr ⟨p,hp,rfl⟩)
   rw [this];exact b
  .rw [bk (by rw [jf q];exact fY)]
   have:yT ((k',v')::r) k=(k',v')::yT r k:=by
    unfold yT
    rw [QI]
    simp [q]
   rw [this];exact .cons a (O xH)
theorem Uk(Zk:bZ Z ae)(T:Top c w K W J mg mb)(S:St c w J F C o s.heap){R:G (D×D)}{x u d:D}{xv dv:aw}(e:ih R x=some (some u))(e':ae (nN Z o i (.dict (se R x)) λo=>k u o))(hi:C[i]?=some a)(E:OR c w F C s.heap a (.dict R))
  (vx:VR c w F C s.heap x xv) (vd:VR c w F C s.heap d dv):bc c w Y own C s (call (.builtin "dict.pop") [.ref a,xv,dv]) (PV ae c w J F k):=by
 refine xA (xh e) λk1 k2=>?_
 have kk:=vc _ _ k1
 intro Q au g
 cases x with
 |str n=>
  obtain⟨⟨t,rfl⟩,so⟩:=vx
  refine iZ (tJ E k1) λaR d1 un sk ln=>?_
  rcases rB oJ n un with⟨z1,z2⟩|⟨m,v',z1,z2,z3⟩
  .rw [z1] at k2;exact aB k2
  rw [z1] at k2;cases k2
  refine zQ zx d1.typeIs CV (CU _ _ _) (ZT (gE c w.w) a (by simp [gE,mY]) [dv] (.inr ⟨dv,rfl⟩) rfl) ⟨aR,v',d1,jk (by rw [<-un.length];exact ln),z2,λM hd hs=>?_⟩
  obtain⟨st,br,pG,S'⟩:=qg (M:=M) Zk S e' hi hs (λI st=>⟨.inl ⟨_,hd,(PA oJ un (sj d1)).imp λm v=>VR.step st,λp hp=>sk p (t7.mp hp).1⟩,j4 I⟩)
  exact g _ C M _ st.any ⟨_,br,pG,S',z3.step st⟩
 |int n=>
  refine bw vx ?_;clear vx;intro t aI;obtain rfl:=aI.symm
  refine fM (xQ E k1) λaR d1 un ln=>?_
  rcases rB sV n un with⟨z1,z2⟩|⟨m,v',z1,z2,z3⟩
  .rw [z1] at k2;exact aB k2
  rw [z1] at k2;cases k2
  refine zQ zx d1.typeIs CV (CU _ _ _) (ZT (lE c w.w) a (by simp [lE,zC]) [dv] (.inr ⟨dv,rfl⟩) rfl) ⟨aR,v',d1,jk (by rw [<-un.length];exact ln),z2,λM hd hs=>?_⟩
  obtain⟨st,br,pG,S'⟩:=qg (M:=M) Zk S e' hi hs (λI st=>⟨.inr ⟨_,hd,(PA sV un (sj d1)).imp λm v=>VR.step st⟩,j4 I⟩)
  exact g _ C M _ st.any ⟨_,br,pG,S',z3.step st⟩
 |_=>exact bz kk
theorem Uj(T:Top c w K W J mg mb)(S:St c w J F C o s.heap){i:H}(e:ih R x=some .none)(hi:C[i]?=some a)(E:OR c w F C s.heap a (.dict R))
  (vx:VR c w F C s.heap x xv) (vd:VR c w F C s.heap d dv):bc c w Y own C s (call (.builtin "dict.pop") [.ref a,xv,dv]) (λr ao M=>VR c w F ao M d r/\ao=C/\M=s.heap):=by
 refine xA (xh e) λk1 k2=>?_
 have kk:=vc _ _ k1
 have ns:=tL T S hi
 intro Q au g
 cases x with
 |str n=>
  obtain⟨⟨t,rfl⟩,so⟩:=vx
  refine iZ (tJ E k1) λaR d1 un sk ln=>?_
  rcases rB oJ n un with⟨z1,z2⟩|⟨m,v',z1,z2,z3⟩
  .exact zQ zx d1.typeIs CV (CU _ _ _) (ZR (gE c w.w) a (by simp [gE,mY]) ns rfl dv) ⟨aR,d1,z2,g _ C s.heap (s.toks+1) (.refl ..) ⟨vd,rfl,rfl⟩⟩
  .rw [z1] at k2;exact ql k2
 |int n=>
  refine bw vx ?_;clear vx;intro t aI;subst aI
  refine fM (xQ E k1) λaR d1 un ln=>?_
  rcases rB sV n un with⟨z1,z2⟩|⟨m,v',z1,z2,z3⟩
  .exact zQ zx d1.typeIs CV (CU _ _ _) (ZR (lE c w.w) a (by simp [lE,zC]) ns rfl dv) ⟨aR,d1,z2,g _ C s.heap (s.toks+1) (.refl ..) ⟨vd,rfl,rfl⟩⟩
  .rw [z1] at k2;exact ql k2
 |_=>exact bz kk
end
section
variable{ag:Type}{Z:cU ag}{ae:ag->Prop}{c:a_}{w:WB}{Y:bG}{own F C:G aA}{s:aT}{J h M:aP}{o:MH}{K:b8}{W:bQ}{mg mb:ar->aa aw}
noncomputable def tB:ar:=⟨⟨[33]⟩⟩
theorem adK(s:ar)(h:s=BB\/s=BA):(decide (s.length<tB.length)||decide (Qj s<Qj tB))=false/\(tB.length==0)=false/\(Builtin.Str.occurrences s tB 0 s.length (s.length+1)).isEmpty=true:=by
 rcases h with rfl|rfl<;>decide+kernel
theorem adL(Zk:bZ Z ae)(S:St c w J F C o s.heap)(hs:z=BB\/z=BA)(e:ae (iV Z o (.list 1 [.str z]) k)):
  bc c w Y own C s (call (.builtin "str.split") [.str z t,.str tB u]) (PV ae c w J F k):=by
 refine cf (adK z hs) λf1 f2 f3=>?_
 have so:g8 z=true:=by rcases hs with rfl|rfl<;>decide+kernel
 refine bc.push (ob:={cls:=.type "list",data:=.seq [Value.str z t].toArray}) Zk S e rfl (λI st g=>oK I g (by exact .one (by exact⟨⟨t,rfl⟩,so⟩)) (fG _)) λI Q au q=>?_
 exact w9 RO (Po _ _ _) PySem.F.entry_str_split (PySem.F.args_str_split_2 _ _) (meets_str_split_not_found z tB t u f1 f2 f3) (q s.toks)
theorem HN:g8 x=true↔∀I∈x.1.1,I<0x110000:=by
 obtain⟨⟨B⟩⟩:=x
 exact HM B
theorem BU(x y:ar):(x++y).1.1=x.1.1++y.1.1:=by
 obtain⟨⟨x⟩⟩:=x
 obtain⟨⟨y⟩⟩:=y
 refine(?_:((⟨x⟩:dS H)++(⟨y⟩:dS H)).toList=_)
 simp
theorem HP{x y:ar}(e:x.1.1=y.1.1):x=y:=by
 obtain⟨⟨x⟩⟩:=x
 obtain⟨⟨y⟩⟩:=y
 dsimp only at e
 rw [e]
theorem Yg(j7:G H)(a:D)(r:G D):sU j7 (a::r)=match a with
  |.str s=>match r with
   |[]=>some s.1.1
   |_::_=>match sU j7 r with
    |some t=>some (app s.1.1 (app j7 t))
    |.none=>.none
  |_=>.none:=rfl
theorem MN{j7:ar}:∀{B:G D} {V:G aw} {t:G H},sU j7.1.1 B=some t->aW c w F C h B V->∃ys,n9 V ys/\C7 j7 ys=⟨⟨t⟩⟩/\∀y∈ys,g8 y=true
 |[],V,t,e,y=>by rw [y.dW];cases e;exact⟨[],.nil,rfl,λy h=>(nomatch h)⟩
 |a::r,V,t,e,y=>by
  refine dR.el y.cj λv gn aE y1 y2=>?_;rw [aE]
  rw [Yg] at e
  cases a with
  |str z=>
   obtain⟨⟨u,rfl⟩,so⟩:=y1
   cases r with
   |nil=>
    rw [y2.dW]
    cases e
    exact⟨[z],.cons z u .nil,rfl,λy h=>by rw [cA.mp h];exact so⟩
   |cons b r'=>
    dsimp only at e
    generalize e1:sU j7.1.1 (b::r')=ax at e
    cases ax with
    |none=>exact aB e
    |some t'=>
     cases e
     refine fM (MN e1 y2) λys h1 h2 h3=>?_
     cases ys with
     |nil=>
      obtain⟨v',ag9,rfl,_⟩:=y2.cj
      cases h1
     |cons y ys=>
      refine⟨z::y::ys,.cons z u h1,?_,λq hq=>?_⟩
      .refine(?_:z++j7++C7 j7 (y::ys)=_)
       rw [h2,gM,gM]
       refine HP ?_
       rw [BU,BU,l_]
      .refine dC (bY.mp hq) (λrf=>?_) λhq=>?_
       .rw [rf];exact so
       .exact h3 q hq
  |_=>exact aB e
theorem OX(hs:g8 j7=true):∀{ys:G ar},(∀y∈ys,g8 y=true)->g8 (C7 j7 ys)=true
 |[],_=>(HN (x:=(⟨#[]⟩:ar))).mpr λI hc=>nomatch hc
 |[x],h=>h x (.head _)
 |x::y::r,h=>by
  have h1:=h x (.head _)
  have h2:=OX hs (ys:=y::r) λz hz=>h z (.tail _ hz)
  refine(?_:g8 (x++j7++C7 j7 (y::r))=true)
  rw [HN] at*
  intro I hc
  rw [BU,BU] at hc
  refine dC (dI.mp hc) (λhc=>?_) λhc=>?_
  .refine dC (dI.mp hc) (λhc=>?_) λhc=>?_
   .exact h1 I hc
   .exact hs I hc
  .exact h2 I hc
theorem Yh(S:St c w J F C o s.heap)(e1:eV o a=some p)(c1:(eB p.1 2000&&jG z.1.1)=true)(e2:sU z.1.1 (rv p.2)=some t)(c2:jG t=true)(so:g8 z=true)(va:VR c w F C s.heap a av):
  bc c w Y own C s (call (.builtin "str.join") [.str z u,av]) (λr ao M=>VR c w F ao M (.str ⟨⟨t⟩⟩) r/\ao=C/\M=s.heap):=by
 refine LstAt.el (nF S e1 va) λad V n bU g y B l4=>?_;rw [bU]
 refine xA (aN.mp c1) λc1 c3=>?_
 have c1:=dw c1
 have c3:=j4 c3
 have c2:=j4 c2
 rw [fD] at e2
 have y':=y.reverse
 rw [mU] at y'
 refine fM (MN e2 y') λys h1 h2 h3=>?_
 have hg:Txt.join z ys=⟨⟨t⟩⟩:=(StrLaws.glued_eq_join z ys).trans h2
 have hl:=PySem.size_glued z ys
 have Ax:(Qi z ys).length=t.length:=by
  rw [show Qi z ys=⟨⟨t⟩⟩ from hg]
  rfl
 have uU:ys.length=p.2.length:=by rw [<-h1.len_eq,y'.length,ez]
 have hz:z.length<=4096:=c3
 intro Q au q
 refine join_list ⟨_,g,rfl,n,rfl⟩ h1 ?_ λt' k=>?_
 .have h4:ys.length*z.length<=2000*4096:=Rl (by lia) hz
  lia
 .rw [hg]
  refine q _ C s.heap k (.refl ..) ⟨?_,rfl,rfl⟩
  exact⟨⟨t',rfl⟩,h2▸OX so h3⟩
noncomputable def orM(q:aa D)(d:D):D:=match q with
 |some u=>u
 |.none=>d
theorem ZW{s a b:ar}(e:(seq s a||seq s b)=true):s=a\/s=b:=by
 refine dC (k_.mp e) (λe=>?_) λe=>?_
 .exact .inl (lV.mp e)
 .exact .inr (lV.mp e)
theorem ZX(Zk:bZ Z ae)(T:Top c w K W J mg mb)(S:St c w J F C o s.heap){v:D}(e:ae (Dg Z (ye o v m B) v o k))(vo:VR c w F C s.heap v E)(vl:aW c w F C s.heap B V):
  bc c w Y own C s (call (.builtin m.id) (E::V)) (PV ae c w J F k):=by
 have bad:ae (Dg Z .bad v o k)->dP:=λq=>Zk.fail q
 cases v with
 |ref i=>
  dsimp only [ye] at e
  generalize e1:o.t.get i=ax at e
  cases ax with
  |none=>exact(bad e).elim
  |some ob=>
   refine ay vo ?_;clear vo;intro a p1 aE;subst aE
   refine ay (S.at_ i a p1) λagU g1 r1=>?_
   rw [e1] at g1;cases g1
   cases ob with
   |list b r=>
    dsimp only at e
    cases m with
    |append=>
     match B,vl,e with
     |[],vl,e=>exact(bad e).elim
     |[x],vl,e=>
      refine dR.el vl.cj λxv gn aE y1 y2=>?_;subst aE
      rw [y2.dW]
      exact Ss Zk S e p1 r1 y1
     |_::_::_,vl,e=>exact(bad e).elim
    |extend=>
     match B,vl,e with
     |[],vl,e=>exact(bad e).elim
     |[x],vl,e=>
      refine dR.el vl.cj λxv gn aE y1 y2=>?_;rw [aE]
      rw [y2.dW]
      have ext:∀{q:H×G D},eV o x=some q->ae (nN Z o i (.list (b+q.1) (app q.2 r)) λo=>k .none o)->bc c w Y own C s (call (.builtin Me.extend.id) [.ref a,xv]) (PV ae c w J F k):=by
       intro q h1 h2
       refine LstAt.el (nF S h1 y1) λad V n bU g y B l4=>?_;subst bU
       exact Vo Zk S h2 p1 r1 ⟨V,n,g,y,B,l4⟩
      cases x with
      |ref j=>
       dsimp only [FR] at e
       generalize I:bA i j=ax at e
       cases ax with
       |true=>exact(bad e).elim
       |false=>
        dsimp only at e
        generalize h1:eV o (.ref j)=ax at e
        cases ax with
        |none=>exact(bad e).elim
        |some q=>exact ext h1 e
      |aD I B=>
       dsimp only [FR] at e
       generalize h1:eV o (.aD I B)=ax at e
       cases ax with
       |none=>exact(bad e).elim
       |some q=>exact ext h1 e
      |_=>exact(bad e).elim
     |_::_::_,vl,e=>exact(bad e).elim
    |A4=>
     match B,vl,e with
     |[],vl,e=>
      rw [vl.dW]
      cases r with
      |nil=>exact(bad e).elim
      |cons u r=>exact ab7 Zk S e p1 r1
     |_::_,vl,e=>exact(bad e).elim
    |_=>exact(bad e).elim
   |dict R=>
    dsimp only at e
    match B,vl,e with
    |[],vl,e=>exact(bad e).elim
    |[_],vl,e=>exact(bad e).elim
    |[x,d],vl,e=>
     refine dR.el vl.cj λxv gn aE y1 y2=>?_;rw [aE]
     replace y2:=y2.cj;obtain⟨dv,gn,rfl,y2,y3⟩:=y2
     rw [y3.dW]
     dsimp only [KQ] at e
     cases h1:ih R x with
     |none=>rw [h1] at e;exact(bad e).elim
     |some q=>
      rw [h1] at e
      cases m with
      |ih=>
       have hd:dictGet o (.ref i) x=some q:=by unfold dictGet dictAt;dsimp only;rw [e1];exact h1
       have vo:VR c w F C s.heap (.ref i) (.ref a):=by exact⟨a,p1,rfl⟩
       have e':ae (k (orM q d) o):=by cases q<;>exact e
       refine(LM (m:=orM q d) T S hd (by cases q<;>rfl) vo y1 y2).mono λr ao M st q=>?_
       refine cf q ?_;clear q;intro q1 aI aE;obtain rfl:=aI.symm;subst aE
       exact PV.gives S e' q1
      |xi=>
       cases q with
       |none=>
        refine(Uj T S h1 p1 r1 y1 y2).mono λr ao M st q=>?_
        refine cf q ?_;clear q;intro q1 aI aE;obtain rfl:=aI.symm;subst aE
        exact PV.gives S e q1
       |some u=>exact Uk Zk T S h1 e p1 r1 y1 y2
      |_=>exact(bad e).elim
    |_::_::_::_,vl,e=>exact(bad e).elim
   |_=>exact(bad e).elim
 |aD I fl=>
  dsimp only [ye] at e
  cases I with
  |dict ks=>
   cases m with
   |ih=>
    match B,vl,e with
    |[],vl,e=>exact(bad e).elim
    |[_],vl,e=>exact(bad e).elim
    |[x,d],vl,e=>
     refine dR.el vl.cj λxv gn aE y1 y2=>?_;rw [aE]
     replace y2:=y2.cj;obtain⟨dv,gn,rfl,y2,y3⟩:=y2
     rw [y3.dW]
     dsimp only [LI] at e
     cases h1:Af ks fl x with
     |none=>rw [h1] at e;exact(bad e).elim
     |some q=>
      rw [h1] at e
      have hd:dictGet o (.aD (.dict ks) fl) x=some q:=h1
      have e':ae (k (orM q d) o):=by cases q<;>exact e
      refine(LM (m:=orM q d) T S hd (by cases q<;>rfl) vo y1 y2).mono λr ao M st q=>?_
      refine cf q ?_;clear q;intro q1 aI aE;obtain rfl:=aI.symm;obtain rfl:=aE.symm
      exact PV.gives S e' q1
    |_::_::_::_,vl,e=>exact(bad e).elim
   |_=>exact(bad e).elim
  |_=>exact(bad e).elim
 |str z=>
  dsimp only [ye] at e
  obtain⟨⟨t,rfl⟩,so⟩:=vo
  match B,vl,e with
  |[],vl,e=>exact(bad e).elim
  |[x],vl,e=>
   refine dR.el vl.cj λxv gn aE y1 y2=>?_;obtain rfl:=aE.symm
   rw [y2.dW]
   dsimp only [OW] at e
   cases m with
   |join=>
    dsimp only at e
    cases h1:eV o x with
    |none=>rw [h1] at e;exact(bad e).elim
    |some p=>
     rw [h1] at e
     dsimp only at e
     cases I:eB p.1 2000&&jG z.1.1 with
     |false=>rw [I] at e;exact(bad e).elim
     |true=>
      rw [I] at e
      dsimp only at e
      generalize h2:sU z.1.1 (rv p.2)=ax at e
      cases ax with
      |none=>exact(bad e).elim
      |some t=>
       dsimp only at e
       cases c2:jG t with
       |false=>rw [c2] at e;exact(bad e).elim
       |true=>
        rw [c2] at e
        refine(Yh S h1 I h2 c2 so y1).mono λr ao M st q=>?_
        refine cf q ?_;clear q;intro q1 aI aE;rw [aI];rw [aE]
        exact PV.gives S e q1
   |split=>
    cases x with
    |str b=>
     dsimp only at e
     cases I:vj b.1.1 [33]&&(seq z BB||seq z BA) with
     |false=>rw [I] at e;exact(bad e).elim
     |true=>
      rw [I] at e
      refine xA (aN.mp I) λc1 c2=>?_
      have hb:b=tB:=HP (M3.mp c1)
      obtain rfl:=hb.symm
      obtain⟨⟨u,rfl⟩,_⟩:=y1
      exact adL Zk S (ZW c2) e
    |_=>exact(bad e).elim
   |_=>exact(bad e).elim
  |_::_::_,vl,e=>exact(bad e).elim
 |_=>exact(bad e).elim
end
section
variable{ag:Type}{Z:cU ag}{ae:ag->Prop}{c:a_}{w:WB}{Y:bG}{own F C:G aA}{s:aT}{J h M:aP}{o:MH}{K:b8}{W:bQ}{mg mb:ar->aa aw}
theorem ac_(S:St c w J F C o h)(e:BG o a=some p)(va:VR c w F C h a x):
  ∃ad V n,x=.ref ad/\(h.get? ad=some (kX V n)\/h.get? ad=some (fT V n))/\aW c w F C h p.2 V.toList.reverse/\p.2.length<=p.1:=by
 have go:∀{p},eV o a=some p->∃ad V n,x=.ref ad/\(h.get? ad=some (kX V n)\/h.get? ad=some (fT V n))/\aW c w F C h p.2 V.toList.reverse/\p.2.length<=p.1:=by
  intro p e
  refine LstAt.el (nF S e va) λad V n h1 h2 h3 h4 _=>?_
  exact⟨ad,V,n,h1,.inr h2,h3,h4⟩
 unfold BG at e
 cases a with
 |tup B=>
  cases e
  refine gr.el va.gj λad V n bU _ g y=>?_;rw [bU]
  exact⟨ad,V,n,rfl,.inl g,by dsimp only;rw [fD];exact y.reverse,by dsimp only;rw [fD,ez];exact fG _⟩
 |_=>exact go e
theorem SP(Zk:bZ Z ae)(S:St c w J F C o s.heap)(e:ae (answer Z (Dq o a) o k))(va:VR c w F C s.heap a x):
  bc c w Y own C s (call (.type "list") [x]) (PV ae c w J F k):=by
 unfold Dq at e
 generalize e1:BG o a=ax at e
 cases ax with
 |none=>exact(Zk.fail e).elim
 |some p=>
  refine dO (ac_ S e1 va) λad V n bU bB=>cf bB λg y B=>?_;subst bU
  have e':ae (iV Z o (.list p.1 p.2) k):=e
  intro Q au q
  have sz:=y.length
  rw [ez,hX] at sz
  have I:iB (.list p.1 p.2)=true:=by
   have e':ae (@bN (λ_=>ag) Z.fail (k (.ref o.n) ⟨o.t.ins o.n (.list p.1 p.2),cX o.n⟩) (iB (.list p.1 p.2)&&cJ ((o.t.ins o.n (.list p.1 p.2)).get o.n))):=e
   exact(aN.mp (iU (x:=Z.fail) Zk e').1).1
  have c4:=uv I
  have go:∀(M:aP) (c':H),(∀b o',s.heap.get? b=some o'->M.get? b=some o')->M.get? s.heap.objs.size=some (fT V c')->Q (.ref s.heap.objs.size) {s with heap:=M}:=λM c' hk hg=>by
   refine xA (p_ (M:=M) Zk S e' (hV _) hk λI st=>oK I hg (y.step st) B) λst pv=>?_
   exact q _ _ M s.toks st.any pv
  refine dC g ?_ ?_<;>clear g<;>intro g
  .exact call_list_seq ad (.inr rfl) g rfl rfl go (jk (by lia))
  .exact call_list_seq ad (.inl rfl) g rfl rfl go (jk (by lia))
theorem SY(Zk:bZ Z ae)(S:St c w J F C o s.heap)(e:ae (answer Z (Dv o a) o k))(va:VR c w F C s.heap a x):
  bc c w Y own C s (call (.type "tuple") [x]) (PV ae c w J F k):=by
 unfold Dv at e
 generalize e1:itemsOf o a=ax at e
 cases ax with
 |none=>exact(Zk.fail e).elim
 |some B=>
  have e':ae (k (.tup B) o):=e
  have lst:∀{ad:aA} {V:dS aw} {n:H},s.heap.get? ad=some (fT V n)->aW c w F C s.heap B V.toList->B.length<=4096->bc c w Y own C s (call (.type "tuple") [.ref ad]) (PV ae c w J F k):=by
   intro ad V n g y l4 Q au q
   have sz:=y.length
   rw [hX] at sz
   refine call_tuple_list ⟨_,g,rfl,n,rfl⟩ (λM hk=>?_) (jk (by lia))
   refine xA (S.grow hk) λst S'=>?_
   refine xA (Gu (s:={s with heap:=M}) S' e' (y.step st)) λbp pv=>?_
   rw [IV] at pv bp
   exact q _ C _ s.toks (st.trans bp).any pv
  cases a with
  |tup l'=>
   cases e1
   have k7:=va
   refine gr.el va.gj λad V n bU sf g y=>?_;obtain rfl:=bU.symm
   exact λQ au q=>call_tuple_same ⟨_,g,rfl,n,rfl⟩ (q _ C s.heap s.toks (.refl ..) (PV.gives S e' k7))
  |ref i=>
   have e2:listAt o i=some B:=e1
   unfold listAt at e2
   generalize e3:o.t.get i=ax at e2
   cases ax with
   |none=>exact aB e2
   |some E=>
    refine ay va ?_;clear va;intro ad p1 aE;subst aE
    have r:=S.ref p1 e3
    cases E with
    |list b r'=>
     cases e2
     refine eK r λV n g y z1 z2=>?_
     refine lst g (by rw [fD];simpa using y.reverse) (by rw [fD,ez];lia)
    |_=>exact aB e2
  |aD I l'=>
   cases I with
   |list b=>
    cases e1
    refine dO va λad V n bU bB=>eN bB λsf g z1 dA=>xA dA λz2 y=>?_;subst bU
    exact lst g y (by lia)
   |_=>exact aB e1
  |_=>exact aB e1
theorem SN(Zk:bZ Z ae)(S:St c w J F C o s.heap)(e:ae (answer Z (Ka a) o k))(va:VR c w F C s.heap a x):
  bc c w Y own C s (call (.type "int") [x]) (PV ae c w J F k):=by
 cases a with
 |int n=>
  have k7:=va
  refine bw va ?_;clear va;intro t aI;subst aI
  exact λQ au q=>call_int_int (q _ C s.heap s.toks (.refl ..) (PV.gives S e k7))
 |_=>exact(Zk.fail e).elim
theorem x_(Zk:bZ Z ae)(S:St c w J F C o s.heap)(e:ae (k (.int n) o))
  (r:∀(Q:aw->aT->Prop) (au:aw->aT->Prop),Q (.int n (s.toks+1)) {s with toks:=s.toks+1+1}->bo (bK c w.w) Y (call (.builtin "len") [x]) Q au s):bc c w Y own C s (call (.builtin "len") [x]) (PV ae c w J F k):=λQ au q=>
 r Q au (q _ C s.heap _ (.refl ..) (PV.gives S e (by exact⟨_,rfl⟩)))
theorem M1(Zk:bZ Z ae)(e:ae (answer Z (FQ b n) o k)):b=true/\ae (k (.int n) o):=by
 cases b with
 |false=>exact(Zk.fail e).elim
 |true=>exact⟨rfl,e⟩
theorem SO(Zk:bZ Z ae)(T:Top c w K W J mg mb)(S:St c w J F C o s.heap)(e:ae (answer Z (Dp o a) o k))(va:VR c w F C s.heap a x):
  bc c w Y own C s (call (.builtin "len") [x]) (PV ae c w J F k):=by
 unfold Dp at e
 have yw:(2:ba)^63=9223372036854775808:=by decide
 generalize e1:itemsOf o a=ax at e
 cases ax with
 |some B=>
  refine xA (M1 Zk e) λI e'=>?_
  have I:=j4 I
  obtain⟨ad,V,n,rfl,g,yl⟩:=Fv S e1 va
  have sz:=yl.length
  rw [hX] at sz
  rw [<-sz] at e'
  refine dC g ?_ ?_<;>clear g<;>intro g
  .exact x_ Zk S e' λQ au q=>PyProof.Rows.len_tuple (isTup g) (by rw [yw];lia) q
  .exact x_ Zk S e' λQ au q=>call_len_list (iJ g) (by rw [yw];lia) q
 |none=>
  dsimp only at e
  cases a with
  |ref i=>
   dsimp only at e
   generalize e2:dictAt o i=ax at e
   cases ax with
   |none=>exact(Zk.fail e).elim
   |some R=>
    obtain⟨ad,p1,rfl,⟨E,l4⟩,_⟩:=uB S e2 va
    have e':ae (k (.int R.length) o):=e
    have ns:=tL T S p1
    rcases E with⟨aR,d,u,_⟩|⟨aR,d,u⟩
    .rw [u.length] at e' l4
     exact x_ Zk S e' λQ au q=>Kk ns d (by rw [yw];lia) q
    .rw [u.length] at e' l4
     exact x_ Zk S e' λQ au q=>Kk ns d (by rw [yw];lia) q
  |aD I B=>
   cases I with
   |dict ks=>
    refine xA (M1 Zk e) λI e'=>?_
    have I:=j4 I
    refine eK va λad V aE _ ns bB=>cf bB λd el y=>?_;obtain rfl:=aE.symm
    have sz:=y.length
    have zl:(ks.zip V).length=ks.length:=by rw [Ct,sz,<-el,wH]
    rw [<-zl] at e' I
    exact x_ Zk S e' λQ au q=>Kk ns d (by rw [yw];lia) q
   |_=>exact(Zk.fail e).elim
  |_=>exact(Zk.fail e).elim
end
section
variable{ag:Type}{Z:cU ag}{ae:ag->Prop}{c:a_}{w:WB}{Y:bG}{own F C:G aA}{s:aT}{J h M:aP}{o:MH}{K:b8}{W:bQ}{mg mb:ar->aa aw}
theorem KV(f n:H):digits (f+1) n=match dB n 10 with|true=>[48+n]|false=>app (digits f (rR n 10)) [48+uf n 10]:=rfl
theorem KU:∀d,d<10->(Nat.digitChar d).toNat=48+d:=by decide
theorem digits_eq(f:H):∀n:H,n<10^f->0<f->digits f n=(CM 10 n).map Char.toNat:=by
 induction f with
 |zero=>exact λ_ _ h=>bP h (zo _)
 |succ f O=>
  intro n h _
  rw [KV]
  cases q:dB n 10 with
  |true=>
   have q:=dw q
   rw [Rx q,QV,KU n q]
  |false=>
   have q:10<=n:=g7.mp λz=>mQ (q.symm.trans (Jv z))
   have hm:n%10<10:=Nat.mod_lt _ (by decide)
   have f0:0<f:=Nat.pos_of_ne_zero λz=>by rw [z] at h;exact bP h (g7.mpr q)
   have t:CM 10 (n / 10)++CM 10 (n%10)=CM 10 (10*(n / 10)+n%10):=Nat.toDigits_append_toDigits (by decide) (Nat.div_pos q (by decide)) hm
   rw [uc] at t
   rw [<-t,rN,Rx hm,QV,KU _ hm,<-O (n / 10) (Nat.div_lt_of_lt_mul (Rk _ _▸h:n<10*10^f)) f0]
   exact gM _ _
theorem Ue(h:n<10000000000):(⟨⟨digits 11 n⟩⟩:ar)=rX (toString ((n:H):ba)):=by
 refine HP ?_
 have EG:(10:H)^11=100000000000:=by decide
 rw [PySem.W.KIN.signs_num,digits_eq 11 n (Nat.lt_trans h (EG▸by decide)) (by decide)]
theorem Ud(n f:H):∀I∈digits f n,I<0x110000:=by
 induction f generalizing n with
 |zero=>intro I hc;cases hc
 |succ f O=>
  rw [KV]
  intro I hc
  generalize q:dB n 10=ax at hc
  cases ax with
  |true=>
   have:=dw q
   rw [cA.mp hc];exact nY (Jt this 48) (by decide)
  |false=>
   dsimp only at hc
   rw [gM] at hc
   refine dC (dI.mp hc) (λhc=>?_) λhc=>?_
   .exact O _ I hc
   .rw [cA.mp hc]
    exact nY (Jt (Nat.mod_lt n (by decide:0<10)) 48) (by decide)
theorem SV(Zk:bZ Z ae)(S:St c w J F C o s.heap)(e:ae (answer Z (Dt a) o k))(va:VR c w F C s.heap a x):
  bc c w Y own C s (call (.type "str") [x]) (PV ae c w J F k):=by
 cases a with
 |int i=>
  refine bw va ?_;clear va;intro t aI;subst aI
  cases i with
  |ofNat n=>
   dsimp only [Dt] at e
   generalize I:dB n 10000000000=ax at e
   cases ax with
   |false=>exact(Zk.fail e).elim
   |true=>
    have hn:n<10000000000:=dw I
    have e':ae (k (.str ⟨⟨digits 11 n⟩⟩) o):=e
    refine λQ au q=>PySem.P.str_of_int ?_ ?_
    .refine(?_:n.log2<1920)
     by_cases z:n=0
     .rw [z];decide
     .refine(Nat.log2_lt z).mpr (nY hn ?_)
      calc 10000000000<=2^40:=by decide
       _<=2^1920:=Nat.pow_le_pow_right (by decide) (by decide)
    .refine q _ C s.heap _ (.refl ..) (PV.gives S e' ?_)
     refine⟨⟨s.toks,?_⟩,(HM _).mpr (Ud n 11)⟩
     rw [Ue hn]
     rfl
  |negSucc n=>exact(Zk.fail e).elim
 |_=>exact(Zk.fail e).elim
theorem XW(e:intsOf (a::B)=some is):∃i r,a=.int i/\intsOf B=some r/\i::r=is:=by
 cases a with
 |int i=>
  have e:(match intsOf B with|some r=>some (i::r)|.none=>.none)=some is:=e
  generalize e1:intsOf B=ax at e
  cases ax with
  |none=>exact aB e
  |some r=>exact⟨i,r,rfl,rfl,aM e⟩
 |_=>exact aB e
theorem XX:∀{V:G aw} {is:G ba},intsOf B=some is->aW c w F C h B V->∃xs:G (ba×Tok),V=xs.map (λp=>Value.int p.1 p.2)/\xs.map (·.1)=is:=by
 induction B with
 |nil=>exact λe y=>⟨[],y.dW,aM e⟩
 |cons a B O=>
  intro V is e y
  refine eO (XW e) λi r aE e' fV=>?_;subst aE;subst fV
  obtain⟨v,gn,rfl,⟨t,rfl⟩,y2⟩:=y.cj
  refine ay (O e' y2) λxs aI h2=>?_;rw [aI]
  exact⟨(i,t)::xs,rfl,cq _ h2⟩
theorem Mx(S:St c w J F C o s.heap)(e1:eV o a=some p)(e2:intsOf (rv p.2)=some is)(va:VR c w F C s.heap a x):
  ∃ad xs,x=.ref ad/\s.heap.IsList ad (intItems xs)/\xs.toList.map (·.1)=is:=by
 refine LstAt.el (nF S e1 va) λad V n bU g y B l4=>?_;subst bU
 rw [fD] at e2
 have y':=y.reverse
 rw [mU] at y'
 refine ay (XX e2 y') λxs h1 h2=>?_
 refine⟨ad,xs.toArray,rfl,?_,by simpa using h2⟩
 have:V=intItems xs.toArray:=by
  apply Array.ext'
  rw [h1]
  simp [intItems]
 rw [<-this]
 exact⟨_,g,rfl,n,rfl⟩
noncomputable def pZ:G ba->ba->ba:=λB=>@b9 ba (λ_=>ba->ba) (λm=>m) (λx _ O m=>O (match ltZ m x with|true=>x|false=>m)) B
theorem ZO:∀(B:G ba) (m:ba),(pZ B m=m\/pZ B m∈B)/\m<=pZ B m/\∀a∈B,a<=pZ B m:=by
 intro gu
 induction gu with
 |nil=>
  intro m
  exact⟨.inl rfl,I_ _,λa h=>(nomatch h)⟩
 |cons x B O=>
  intro m
  have st:pZ (x::B) m=pZ B (match ltZ m x with|true=>x|false=>m):=rfl
  rw [st]
  cases q:ltZ m x with
  |true=>
   have:=(j5 m x).mp q
   refine cf (O x) λh1 h2 h3=>?_
   dsimp only
   refine⟨.inr ?_,wt (rI this) h2,λa ha=>?_⟩
   .refine dC h1 ?_ ?_<;>clear h1<;>intro h1
    .rw [h1];exact .head _
    .exact .tail _ h1
   .refine dC (bY.mp ha) (λrf=>?_) λha=>?_
    .rw [rf];exact h2
    .exact h3 a ha
  |false=>
   have hx:¬m<x:=λz=>by rw [(j5 m x).mpr z] at q;exact Ie q
   refine cf (O m) λh1 h2 h3=>?_
   dsimp only
   refine⟨h1.imp id (.tail _),h2,λa ha=>?_⟩
   exact(bY.mp ha).elim (λz=>z▸wt (Int.not_lt.mp hx) h2) (h3 a)
theorem getD_mem'{B:G ba}(h:i<B.length):B.getD i 0∈B:=by
 have e:B.getD i 0=B[i]:=by simp [h]
 rw [e]
 exact zg h
theorem SJ{xs:dS (ba×Tok)}(hx:xs.toList.map (·.1)=i::is):0<xs.size/\td xs (argBest (λi j=>decide (td xs i>td xs j)) (xs.size-1))=pZ is i:=by
 have len:xs.size=is.length+1:=by
  have:=cq zh hx
  rwa [cZ,hX] at this
 refine xA (argBest_gt (td xs) (xs.size-1)) λh1 h2=>?_
 have hs:xs.size-1=is.length:=by rw [len];rfl
 refine cf (ZO is i) λm1 m2 m3=>?_
 have mem:pZ is i∈i::is:=m1.elim (λh=>bY.mpr (.inl h)) (.tail _)
 refine⟨len▸ug _,Int.le_antisymm ?_ ?_⟩
 .have b1:td xs (argBest (λi j=>decide (td xs i>td xs j)) (xs.size-1))∈i::is:=by
   rw [numAt_eq,hx]
   exact getD_mem' (rT (hs▸h1))
  exact(bY.mp b1).elim (λh=>wt (I9 h) m2) (m3 _)
 .rw [<-hx] at mem
  obtain⟨j,hj,ej⟩:=iE mem
  rw [cZ,hX] at hj
  have:=h2 j (Nat.le_sub_one_of_lt hj)
  rw [numAt_eq,Cr,cV (by rw [cZ,hX];exact hj)] at this
  exact ej▸this
theorem SQ(hh:Y.handled=none)(Zk:bZ Z ae)(S:St c w J F C o s.heap)(e:ae (answer Z (Dr o a) o k))(va:VR c w F C s.heap a x):
  bc c w Y own C s (call (.builtin "max") [x]) (PV ae c w J F k):=by
 unfold Dr at e
 generalize e1:eV o a=ax at e
 cases ax with
 |none=>exact(Zk.fail e).elim
 |some p=>
  dsimp only at e
  generalize e2:intsOf (rv p.2)=ax at e
  cases ax with
  |none=>exact(Zk.fail e).elim
  |some is=>
   dsimp only at e
   refine eO (Mx S e1 e2 va) λad xs aE g hx=>?_;subst aE
   cases is with
   |nil=>exact(Zk.fail e).elim
   |cons i is=>
    have e':ae (k (.int (pZ is i)) o):=e
    refine xA (SJ hx) λlD hm=>?_
    refine λQ au q=>max_intList hh g lD λv M tk hv hk=>?_
    refine bw (intItems_at hv) λt aI=>?_;rw [aI]
    rw [hm]
    refine xA (S.grow hk) λst S'=>?_
    exact q _ C M tk st.any (PV.gives S' e' (by exact⟨t,rfl⟩))
theorem aeh(B:G ba):∀m:ba,(@b9 ba (λ_=>ba->ba) (λm=>m) (λx _ O m=>O (m+x)) B:ba->ba) m=m+B.sum:=by
 induction B with
 |nil=>exact λm=>(Int.add_zero m).symm
 |cons x B O=>exact λm=>(O (m+x)).trans (by rw [List.sum_cons,Int.add_assoc])
theorem SX(hh:Y.handled=none)(Zk:bZ Z ae)(S:St c w J F C o s.heap)(e:ae (answer Z (Du o a) o k))(va:VR c w F C s.heap a x):
  bc c w Y own C s (call (.builtin "sum") [x]) (PV ae c w J F k):=by
 unfold Du at e
 generalize e1:eV o a=ax at e
 cases ax with
 |none=>exact(Zk.fail e).elim
 |some p=>
  dsimp only at e
  generalize e2:intsOf (rv p.2)=ax at e
  cases ax with
  |none=>exact(Zk.fail e).elim
  |some is=>
   refine eO (Mx S e1 e2 va) λad xs aE g hx=>?_;subst aE
   have e':ae (k (.int (HS is)) o):=e
   refine λQ au q=>sum_intListG hh g λM tk t' hk=>?_
   refine xA (S.grow hk) λst S'=>?_
   refine q _ C M tk st.any (PV.gives S' e' ?_)
   refine⟨t',?_⟩
   have:preSum (td xs) xs.size=HS is:=by
    rw [preSum_eq,Q6 (by simp),hx]
    refine(?_:_=(@b9 ba (λ_=>ba->ba) (λm=>m) (λx _ O m=>O (m+x)) is:ba->ba) 0)
    rw [aeh,Qx]
   rw [this]
theorem SR(hh:Y.handled=none)(Zk:bZ Z ae)(S:St c w J F C o s.heap)(e:ae (answer Z (Kb f a b) o k))(va:VR c w F C s.heap a x)(vb:VR c w F C s.heap b y):
  bc c w Y own C s (call f.value [x,y]) (PV ae c w J F k):=by
 cases f with
 |min=>
  cases a with
  |int i=>
   cases b with
   |int j=>
    refine bw va ?_;clear va;intro t aI;subst aI
    refine bw vb ?_;clear vb;intro u aI;subst aI
    refine λQ au q=>min_two_ints hh λM tk hk=>?_
    refine xA (S.grow hk) λst S'=>?_
    have e':ae (k (.int (match ltZ j i with|true=>j|false=>i)) o):=e
    generalize I:ltZ j i=ax at e'
    cases ax with
    |true=>
     have:=(j5 j i).mp I
     rw [bT this]
     exact q _ C M tk st.any (PV.gives S' e' (by exact⟨u,rfl⟩))
    |false=>
     have:¬j<i:=λz=>by rw [(j5 j i).mpr z] at I;exact Ie I
     rw [bk this]
     exact q _ C M tk st.any (PV.gives S' e' (by exact⟨t,rfl⟩))
   |_=>exact(Zk.fail e).elim
  |_=>exact(Zk.fail e).elim
 |_=>exact(Zk.fail e).elim
end
section
variable{ag:Type}{Z:cU ag}{ae:ag->Prop}{c:a_}{w:WB}{Y:bG}{own F C:G aA}{s:aT}{J h M:aP}{o:MH}{K:b8}{W:bQ}{mg mb:ar->aa aw}
noncomputable def DR(c:a_)(w:WB)(F C:G aA)(hv h:aP)(a:aA)(R:G (D×D)):Prop:=
 (∃aR,h.DictOf (gE c w.w) a aR/\Under (VR c w F C hv) D.str R aR/\∀p∈aR,g8 p.1=true)\/(∃aR,h.DictOf (lE c w.w) a aR/\Under (VR c w F C hv) D.int R aR)
theorem DR.str(E:DR c w F C hv h a R)(e:keysOk R (.str x)=true):
  ∃aR,h.DictOf (gE c w.w) a aR/\Under (VR c w F C hv) D.str R aR/\(∀p∈aR,g8 p.1=true):=by
 obtain⟨aR,d,u,q⟩|⟨aR,d,u⟩:=E
 .exact⟨aR,d,u,q⟩
 .cases u with
  |nil=>exact⟨[],sh d,.nil,λ_ h=>(nomatch h)⟩
  |cons a b=>exact bP (xW _ _ _ e).1 (λh=>nomatch (h:false=true))
theorem DR.int(E:DR c w F C hv h a R)(e:keysOk R (.int x)=true):
  ∃aR,h.DictOf (lE c w.w) a aR/\Under (VR c w F C hv) D.int R aR:=by
 obtain⟨aR,d,u,q⟩|⟨aR,d,u⟩:=E
 .cases u with
  |nil=>exact⟨[],sh d,.nil⟩
  |cons a b=>exact bP (xW _ _ _ e).1 (λh=>nomatch (h:false=true))
 .exact⟨aR,d,u⟩
theorem DR.or(E:DR c w F C hv h a R)(st:bh [] C hv (C++[a]) h)(B:R.length<=4096):OR c w F (C++[a]) h a (.dict R):=by
 refine⟨?_,B⟩
 obtain⟨aR,d,u,q⟩|⟨aR,d,u⟩:=E
 .exact .inl ⟨aR,d,u.imp λm v=>VR.step st,q⟩
 .exact .inr ⟨aR,d,u.imp λm v=>VR.step st⟩
theorem DR.at(E:DR c w F C hv h a R)(e:∀E,h.get? a=some E->M.get? a=some E):DR c w F C hv M a R:=by
 obtain⟨aR,d,u,q⟩|⟨aR,d,u⟩:=E
 .exact .inl ⟨aR,sg d e,u,q⟩
 .exact .inr ⟨aR,sg d e,u⟩
theorem DR.new:DR c w F C hv (h.push {cls:=.type "dict",data:=.dict #[]}) h.objs.size []:=.inl ⟨[],Cm h,.nil,λp q=>nomatch q⟩
theorem DR.set(s:aT)(E:DR c w F C hv s.heap a R)(e:dput R k m=some dD)(B:R.length<=4096)(vk:VR c w F C hv k kv)(vm:VR c w F C hv m v)
  (q:∀M,DR c w F C hv M a dD->iC a s.heap M->Q () {s with heap:=M,toks:=s.toks+1}):bo (bK c w.w) Y (dictSet a kv v) Q au s:=by
 refine xA (z_ e) λk1 aI=>?_;subst aI
 have kk:=vc _ _ k1
 cases k with
 |str n=>
  obtain⟨⟨t,rfl⟩,so⟩:=vk
  refine fM (E.str k1) λaR d1 u sk=>?_
  refine afv (knd:=gE c w.w) (k:=n) (by simp [gE,mY]) d1 (λM hd hs=>q M (.inl ⟨_,hd,yP oJ vm u (sj d1),λp hp=>?_⟩) hs) (jk (by rw [<-u.length];exact B))
  rcases HL _ _ _ p hp with q|⟨q,hq,e⟩
  .exact q▸so
  .exact e▸sk q hq
 |int n=>
  refine bw vk ?_;clear vk;intro t aI;subst aI
  refine ay (E.int k1) λaR d1 u=>?_
  exact afv (knd:=lE c w.w) (k:=n) (by simp [lE,zC]) d1 (λM hd hs=>q M (.inr ⟨_,hd,yP sV vm u (sj d1)⟩) hs) (jk (by rw [<-u.length];exact B))
 |_=>exact bz kk
theorem z9(e:dput R k m=some dD):R.length<=dD.length/\dD.length<=R.length+1:=by
 refine xA (z_ e) λkk aI=>?_;subst aI
 refine⟨?_,Un k m R⟩
 clear e kk
 induction R with
 |nil=>exact gD _
 |cons p R O=>
  rw [D6]
  split
  .exact fG _
  .exact n4 O
theorem abo(a:D)(B:G D)(R:G (D×D)):nK (a::B) R=match a with
  |.tup q=>match q with
   |[k,v]=>match dput R k v with
    |some R=>nK B R
    |.none=>.none
   |_=>.none
  |_=>.none:=rfl
theorem N9(e:nK (a::B) R=some dD):∃k v jV,a=.tup [k,v]/\dput R k v=some jV/\nK B jV=some dD:=by
 rw [abo] at e
 cases a with
 |tup q=>
  match q,e with
  |[],e=>exact aB e
  |[_],e=>exact aB e
  |[k,v],e=>
   dsimp only at e
   generalize e1:dput R k v=ax at e
   cases ax with
   |none=>exact aB e
   |some jV=>exact⟨k,v,jV,rfl,e1,e⟩
  |_::_::_::_,e=>exact aB e
 |_=>exact aB e
theorem abp:∀{B:G D} {R dD:G (D×D)},nK B R=some dD->R.length<=dD.length:=by
 intro gu
 induction gu with
 |nil=>
  intro R dD e
  cases e;exact fG _
 |cons a B O=>
  intro R dD e
  refine dO (N9 e) λk v jV _ bB=>xA bB λe1 e2=>?_
  exact dQ (z9 e1).1 (O e2)
theorem Pr:entryFor table "dict.update.loop" =some nT.«dict.update.loop»:=entryFor_of_tree (by kernel_rfl)
theorem Pt(args:Args):(I0 "dict.update.loop" args).quiet=true:=Code.quiet_builtin _ (by decide+kernel)
theorem qQ(hd:h.get? d=none)(e:h.get? b=some E):b≠d:=λq=>by rw [q,hd] at e;exact aB e
theorem ae9{d it ad:aA}(EO:d≠it)(hd:hv.get? d=none)(hi:hv.get? it=none)(g:hv.get? ad=some (fT V n))(l4:dD.length<=4096)
  (r:∀M tk,(∀b E,hv.get? b=some E->M.get? b=some E)->DR c w F C hv M d dD->R' (.ok (.ret .none)) {s with heap:=M,toks:=tk}):∀(B:G D) (j:H) (R:G (D×D)) (h:aP) (tk:H) (Y:bG) (i:ba),Y.handled=none->
  nK B R=some dD->aW c w F C hv B (V.toList.drop j)->(∀b E,hv.get? b=some E->h.get? b=some E)->h.IsListIter it ad j->DR c w F C hv h d R->
  lB (bK c w.w) Y (.builtin "dict.update.loop" ⟨[.ref d,.ref it,.int i 0,.none],[]⟩) R' {s with heap:=h,toks:=tk}:=by
 intro gu
 induction gu with
 |nil=>
  intro j R h tk Y i hh e y hk eZ dr
  cases e
  have hx:V[j]?=none:=by
   have:=y.length
   rw [rL,hX] at this
   exact IT (by simp only [rM] at this;lia)
  refine codeAny_builtin Pr ?_
  unfold nT.«dict.update.loop»
  refine aO (PX (s:={s with heap:=h,toks:=tk}) hh eZ ⟨_,hk _ _ g,rfl,n,rfl⟩ hx λM hs=>?_)
  dsimp only
  unfold Builtin.Dict.addKeywords
  refine aO (bX (bX ?_))
  exact r M tk (λb E e=>hs b E (qQ hi e) (hk b E e)) (dr.at λE e=>hs d E EO e)
 |cons a B O=>
  intro j R h tk Y i hh e y hk eZ dr
  refine dO (N9 e) λk m jV bU bB=>xA bB λe1 e2=>?_;subst bU
  refine dR.el y.cj λv gn ev y1 y2=>?_
  have hx:V[j]?=some v:=by
   have:(V.toList.drop j)[0]?=some v:=by rw [ev];rfl
   rw [Cs,CG] at this
   simpa using this
  have uQ:V.toList.drop (j+1)=gn:=by
   have:(V.toList.drop j).drop 1=gn:=by rw [ev];rfl
   rwa [QD] at this
  refine gr.el y1.gj λt ws u bU sf gt yt=>?_;subst bU
  replace yt:=yt.cj;obtain⟨kv,ahe,ew,yk,yt⟩:=yt
  replace yt:=yt.cj;obtain⟨mv,ahf,rfl,ym,yt⟩:=yt
  rw [yt.dW] at ew
  refine codeAny_builtin Pr ?_
  unfold nT.«dict.update.loop»
  refine aO (PY (s:={s with heap:=h,toks:=tk}) eZ ⟨_,hk _ _ g,rfl,n,rfl⟩ hx λh1 WZ AG=>?_)
  dsimp only
  have my:∀b E,hv.get? b=some E->h1.get? b=some E:=λb E e=>(AG.2 b (qQ hi e)).trans (hk b E e)
  have xj:DR c w F C hv h1 d R:=dr.at λE e=>(AG.2 d EO).trans e
  refine aO (iP (aO (wpAny_tryCatch ?_)))
  unfold Builtin.Dict.pairItems
  refine aO (wpAny_typeOf (T:="tuple") ⟨_,my _ _ gt,rfl⟩ ?_)
  refine aO (m:=tD (.ref t)) ?_
  unfold tD
  refine aO (wpAny_load (my _ _ gt) (bX (bX ?_)))
  dsimp only [Option.getD]
  rw [ew]
  dsimp only
  refine iP (DR.set (s:={s with heap:=h1,toks:=tk}) xj e1 (dQ (dQ (z9 e1).1 (abp e2)) l4) yk ym λh2 xk oE=>?_)
  refine bX ⟨Pt _,?_⟩
  exact O (j+1) jV h2 (tk+1) _ _ hh e2 (by rw [uQ];exact y2) (λb E e=>(oE.2 b (qQ hd e)).trans (my b E e)) (WZ.at λE e=>(oE.2 it EO.symm).trans e) xk
end
section
variable{ag:Type}{Z:cU ag}{ae:ag->Prop}{c:a_}{w:WB}{Y:bG}{own F C:G aA}{s:aT}{J h M:aP}{o:MH}{K:b8}{W:bQ}{mg mb:ar->aa aw}
noncomputable def Dc:aw->aA
 |.ref b=>b
 |_=>0
theorem YV:typeLookup (.type "list") "keys" =pure none:=am_miss_of_fast (by decide+kernel)
theorem Ys:(["__module__","__name__","__qualname__","__doc__","__annotations__"]:G ar).contains "keys" =false:=by decide+kernel
theorem aaB(hx:s.heap.get? a=some (fT xs k))(hA:Y.handled=none)
  (h:∀M tk,(∀b E,s.heap.get? b=some E->M.get? b=some E)->Q none {s with heap:=M,toks:=tk}):bo (bK c w.w) Y (getAttr? (.ref a) "keys") Q au s:=by
 obtain⟨hp,g,d,tk,os⟩:=s
 have hT:∀mN,(⟨hp,g,d,mN,os⟩:aT).TypeIs (.ref a) "list" :=λ_=>⟨_,hx,rfl⟩
 have f1:=sub_AttributeError
 have f3:=JL.lookup
 have f4:=JL.bind (.ref a)
 have f5:=am_list_getattr_none
 unfold getAttr? getAttrBy?
 refine aO (wpAny_mkText (aO (PS ?_)))
 have key:bo (bK c w.w) Y (getAttrBy (.ref a) (.str "keys" tk) false) (λ_ _=>dP) (λe s'=>∃M mN,Heap.NewAttrErr hp M (Dc e) (.ref a) "keys" /\e=.ref (Dc e)/\s'=⟨M,g,d,mN,os⟩) ⟨hp,g,d,tk+1,os⟩:=by
  unfold getAttrBy
  repeat (any_goals (first|assumption|exact hT _|((with_reducible show bo _ _ (call (Value.builtin "list.__getattribute__") _ _) _ _ _);refine w9 JL (hT _) am_entry_list_getattribute (PySem.F.args_list_getattribute_2 _ _) (meets_getattribute_miss_list a xs k #[] "keys" _ YV Ys (by size_fits)) ⟨hx,hA,λM mN e E6=>?_⟩)|wp_step))
  refine gK E6.there λt' u' he=>?_
  refine(?_:bo _ _ (Wc _ _ _ _ _ _ _) _ _ _)
  unfold Wc
  repeat (any_goals (first|assumption|wp_step))
  exact⟨M,mN,E6,rfl,rfl⟩
 refine qq key (λ_ _ q=>q.elim) λe s' q=>?_
 refine eO q ?_;clear q;intro M mN q1 q2 fV;subst fV
 rw [q2]
 refine gK q1.there λt' u' he=>?_
 have Wn:(⟨M,g,d,mN,os⟩:aT).TypeIs (.ref (Dc e)) "AttributeError" :=⟨_,he,rfl⟩
 dsimp only
 refine aO (wpAny_isInstance Wn f1 ?_)
 exact bX (h M mN q1.keeps)
theorem KS(hh:Y.handled=none)(Zk:bZ Z ae)(S:St c w J F C o s.heap){ad:aA}(e1:nK B []=some R)(e:ae (iV Z o (.dict R) k))(g:s.heap.get? ad=some (fT V n))(y:aW c w F C s.heap B V.toList):
  bc c w Y own C s (call (.type "dict") [.ref ad]) (PV ae c w J F k):=by
 have I:iB (.dict R)=true:=by
  have e':ae (@bN (λ_=>ag) Z.fail (k (.ref o.n) ⟨o.t.ins o.n (.dict R),cX o.n⟩) (iB (.dict R)&&cJ ((o.t.ins o.n (.dict R)).get o.n))):=e
  exact(aN.mp (iU (x:=Z.fail) Zk e').1).1
 have l4:=j4 I
 intro Q au q
 refine callType_codes (Q₁:=λobj fX=>obj=.ref s.heap.objs.size/\fX={s with heap:=s.heap.push {cls:=.type "dict",data:=.dict #[]}}) PySem.F.kt_called_dict (PySem.F.kt_typeCall_dict_1 _) PySem.F.entry_dict_init (kt_code_dict_new _ ⟨rfl,rfl⟩) ?_
 rintro obj fX ⟨rfl,rfl⟩
 have AB:(s.heap.push {cls:=.type "dict",data:=.dict #[]}).DictOf (gE c w.w) s.heap.objs.size []:=Cm s.heap
 have g1:(s.heap.push {cls:=.type "dict",data:=.dict #[]}).get? ad=some (fT V n):=fK _ _ _ _ g
 refine⟨AB.typeIs,PySem.F.args_dict_init_2 _ _,?_⟩
 unfold nT.«dict.__init__»
 refine aO ?_
 unfold Builtin.Dict.selfAndRest
 refine aO (wpAny_notOrdered_dict AB.typeIs ?_)
 refine(?_:bo _ _ (pure (s.heap.objs.size,[og ad])) _ _ _)
 refine bX ?_
 refine(?_:bo _ _ (Qg "dict.__init__" s.heap.objs.size (.ref ad) [] .none) _ _ _)
 unfold Qg
 refine aO (wpAny_typeOf (T:="list") ⟨_,g1,rfl⟩ ?_)
 rw [bT (by decide)]
 refine aO ?_
 refine aaB (s:={s with heap:=s.heap.push {cls:=.type "dict",data:=.dict #[]}}) g1 hh λh1 aZ my=>?_
 show bo _ _ (do rule _;let __do_lift <-oQ (og ad);again _) _ _ _
 refine aO (yU (aO (Ca (s:={s with heap:=h1,toks:=aZ}) ⟨_,my _ _ g1,rfl,n,rfl⟩ ?_)))
 have W0:∀b E,s.heap.get? b=some E->(h1.push {cls:=.type "list_iterator",data:=.fields #[.ref ad,.int 0 0]}).get? b=some E:=λb E e=>fK _ _ _ _ (my _ _ (fK _ _ _ _ e))
 have Wy:(s.heap.push {cls:=.type "dict",data:=.dict #[]}).get? s.heap.objs.size=some {cls:=.type "dict",data:=.dict #[]}:=hZ _ rfl
 have d1:=my _ _ Wy
 refine bX ⟨Pt _,?_⟩
 refine ae9 (F:=F) (C:=C) (hv:=s.heap) (d:=s.heap.objs.size) (dD:=R) (λq=>?_) (hV _) ?_ g l4 (λM mN lC Ul=>?_) B 0 [] _ _ _ _ hh e1 y W0 ⟨_,hZ _ rfl,rfl,rfl⟩ (DR.at .new λE e=>fK _ _ _ _ (my _ _ e))
 .have:=wo d1
  rw [q] at this
  exact zo _ this
 .cases z:s.heap.get? h1.objs.size with
  |none=>rfl
  |some E=>
   have:=my _ _ (fK _ {cls:=.type "dict",data:=.dict #[]} _ _ z)
   rw [hV] at this;exact aB this
 .refine xA (p_ (M:=M) Zk S e (hV _) lC λI st=>Ul.or st l4) λst pv=>?_
  exact⟨rfl,q _ _ M mN st.any pv⟩
theorem SM(hh:Y.handled=none)(Zk:bZ Z ae)(T:Top c w K W J mg mb)(S:St c w J F C o s.heap)(e:ae (answer Z (Dn o a) o k))(va:VR c w F C s.heap a x):
  bc c w Y own C s (call (.type "dict") [x]) (PV ae c w J F k):=by
 unfold Dn at e
 cases a with
 |ref i=>
  dsimp only at e
  generalize e1:o.t.get i=ax at e
  cases ax with
  |none=>exact(Zk.fail e).elim
  |some E=>
   refine ay va ?_;clear va;intro ad p1 aE;subst aE
   have r:=S.ref p1 e1
   cases E with
   |dict R=>
    have e':ae (iV Z o (.dict R) k):=e
    have ns:=tL T S p1
    refine xA r ?_;clear r;intro r l4
    intro Q au q
    have go:∀M,iC s.heap.objs.size (s.heap.push {cls:=.type "dict",data:=.dict #[]}) M->DR c w F C s.heap M s.heap.objs.size R->Q (.ref s.heap.objs.size) {s with heap:=M}:=λM hs dr=>by
     have hk:∀b E,s.heap.get? b=some E->M.get? b=some E:=λb E e=>(hs.2 b (qQ (hV _) e)).trans (fK _ _ _ _ e)
     refine xA (p_ (M:=M) Zk S e' (hV _) hk λI st=>dr.or st l4) λst pv=>?_
     exact q _ _ M s.toks st.any pv
    rcases r with⟨aR,d,u,sk⟩|⟨aR,d,u⟩
    .exact kt_call_dict ns d (jk (by rw [<-u.length];exact l4)) λM hd hs=>go M hs (.inl ⟨aR,hd,u,sk⟩)
    .exact kt_call_dict ns d (jk (by rw [<-u.length];exact l4)) λM hd hs=>go M hs (.inr ⟨aR,hd,u⟩)
   |list b r'=>
    dsimp only at e
    generalize e2:nK (rv r') []=ax at e
    cases ax with
    |none=>exact(Zk.fail e).elim
    |some R=>
     refine eO r λV n g y _=>?_
     rw [fD] at e2
     exact KS hh Zk S e2 e g (by simpa using y.reverse)
   |_=>exact(Zk.fail e).elim
 |aD I B=>
  cases I with
  |list b=>
   dsimp only at e
   generalize e2:nK B []=ax at e
   cases ax with
   |none=>exact(Zk.fail e).elim
   |some R=>
    refine dO va λad V n bU bB=>eN bB λ_ g _ dA=>xA dA λ_ y=>?_;subst bU
    exact KS hh Zk S e2 e g y
  |_=>exact(Zk.fail e).elim
 |_=>exact(Zk.fail e).elim
end
section
variable{ag:Type}{Z:cU ag}{ae:ag->Prop}{c:a_}{w:WB}{Y:bG}{own F F' C ao:G aA}{s:aT}{J h M:aP}{o:MH}{K:b8}{W:bQ}{mg mb:ar->aa aw}
structure jx(J h M:aP)(C new:G aA):Prop where
 keep:∀b E,h.get? b=some E->M.get? b=some E
 new:∀b∈new,h.get? b=none/\(∃E,M.get? b=some E)
theorem St.lO(S:St c w J F C o h)(hn:h.get? a=none):a∉C/\a∉F/\J.get? a=none:=by
 refine⟨λq=>?_,λq=>?_,?_⟩
 .obtain⟨i,hi,e⟩:=iE q
  refine ay (S.at_ i a (by rw [cV hi,e])) λx _ r=>?_
  refine bw r.some λy hy=>?_
  rw [hn] at hy;exact aB hy
 .obtain⟨⟨E,ho⟩,_⟩:=S.cI _ q
  rw [hn] at ho;exact aB ho
 .cases e:J.get? a with
  |none=>rfl
  |some E=>rw [(S.keep a E e).1] at hn;exact ql hn
theorem pH(f:jx J h M C new):∀a E,h.get? a=some E->cM F C a->M.get? a=some E/\cM (new++F) C a:=λa E e x=>by
 refine⟨f.keep a E e,λq=>?_,x.2⟩
 rcases dI.mp q with q|q
 .rw [(f.new a q).1] at e;exact aB e
 .exact x.1 q
theorem VR.enter(f:jx J h M C new)(x:VR c w F C h m v):VR c w (new++F) C M m v:=x.mono (pH f) (.inr λ_ _ e=>e)
theorem aW.enter(f:jx J h M C new)(x:aW c w F C h m v):aW c w (new++F) C M m v:=x.mono (pH f) (.inr λ_ _ e=>e)
theorem St.enter(S:St c w J F C o h)(f:jx J h M C new):St c w J (new++F) C o M:=by
 refine⟨λb x e=>⟨f.keep _ _ (S.keep b x e).1,(S.keep b x e).2⟩,S.len,S.apart,λb hb=>?_,λj b e=>?_⟩
 .rcases dI.mp hb with hb|hb
  .refine cf (S.lO (f.new b hb).1) λn1 n2 n3=>?_
   exact⟨(f.new b hb).2,n1,n3⟩
  .obtain⟨⟨x,hx⟩,n⟩:=S.cI b hb
   exact⟨⟨x,f.keep b x hx⟩,n⟩
 .refine ay (S.at_ j b e) λx hx r=>?_
  refine bw r.some λy hy=>?_
  exact⟨x,hx,tj (pH f) (λ_ _ e=>e) ((f.keep b y hy).trans hy.symm) r⟩
theorem FP:∀a E,h.get? a=some E->cM (new++F) C a->h.get? a=some E/\cM F C a:=λa E e x=>⟨e,λq=>x.1 (fC _ q),x.2⟩
theorem VR.leave(x:VR c w (new++F) C h m v):VR c w F C h m v:=x.mono FP (.inr λ_ _ e=>e)
theorem aW.leave(x:aW c w (new++F) C h m v):aW c w F C h m v:=x.mono FP (.inr λ_ _ e=>e)
theorem St.leave(S:St c w J (new++F) C o h):St c w J F C o h:=by
 refine⟨S.keep,S.len,S.apart,λb hb=>S.cI b (fC _ hb),λj b e=>?_⟩
 refine ay (S.at_ j b e) λx hx r=>?_
 exact⟨x,hx,tj FP (λ_ _ e=>e) rfl r⟩
theorem bc.agk(hn:∀b∈new,s.heap.get? b=none)(x:bc c w Y new C s t P):bc c w Y own C s t P:=λQ au k=>
 x Q au λa ao M tk st p=>k a ao M tk (st.more λb q=>.inr (hn b q)) p
theorem St.turn(S:St c w J F C o h){a:aA}(ha:a∈F)(hs:iC a h M)(hx:∃E,M.get? a=some E):bh [a] C h C M/\St c w J F C o M:=by
 refine cf (S.cI a ha) λ_ n1 n2=>?_
 have st:bh [a] C h C M:=⟨mT _,λb E e n m=>(hs.2 b λq=>m (cA.mpr q)).trans e,λb E e n=>by
  by_cases q:b=a
  .rw [q];exact⟨hx,n1⟩
  .exact⟨⟨E,(hs.2 b q).trans e⟩,n⟩⟩
 refine⟨st,S.side (own:=[a]) (λb hb=>by rw [cA.mp hb];exact ha) st (λb x e=>?_) (λb hb=>hs.2 b λq=>n1 (q▸hb)) λb hb=>?_⟩
 .have:b≠a:=λq=>by rw [q,n2] at e;exact aB e
  exact(hs.2 b this).trans (S.keep b x e).1
 .by_cases q:b=a
  .rw [q];exact hx
  .obtain⟨⟨x,hx⟩,_⟩:=S.cI b hb
   exact⟨x,(hs.2 b q).trans hx⟩
end
inductive i0{α β:Type}(P:α->β->Prop):G α->G β->Prop
 |nil:i0 P [] []
 |cons {a:α} {b:β} {B:G α} {r:G β}:P a b->i0 P B r->i0 P (a::B) (b::r)
section
variable{α β:Type}{P:α->β->Prop}
theorem i0.length(x:i0 P B r):B.length=r.length:=by
 induction x with
 |nil=>rfl
 |cons _ _ O=>exact cq (· +1) O
theorem i0.at(x:i0 P B r):∀{i:H} {b:β},r[i]?=some b->∃a,B[i]?=some a/\P a b:=by
 induction x with
 |nil=>exact λe=>aB e
 |cons p _ O=>exact λ{i b}=>i.casesOn (λe=>⟨_,rfl,aM e▸p⟩) λ_ e=>O e
theorem i0.perm(p:B.Perm l'):∀{r:G β},i0 P B r->∃r',i0 P l' r'/\r.Perm r':=by
 induction p with
 |nil=>intro r x;exact⟨r,x,.refl _⟩
 |cons a _ O=>
  intro r x
  cases x with
  |cons q x=>
   refine ay (O x) λr' h1 h2=>?_
   exact⟨_::r',.cons q h1,h2.cons _⟩
 |swap a b B=>
  intro r x
  cases x with
  |cons q x=>
   cases x with
   |cons q' x=>exact⟨_::_::_,.cons q' (.cons q x),.swap ..⟩
 |trans _ _ Fc Fd=>
  intro r x
  refine ay (Fc x) λr1 h1 h2=>?_
  refine ay (Fd h1) λr2 h3 h4=>?_
  exact⟨r2,h3,h2.trans h4⟩
end
theorem ad_(y:G H):strLt [] y=!y.isEmpty:=by cases y<;>rfl
theorem ad8(a:H)(x:G H)(b:H)(y:G H):strLt (a::x) (b::y)=if a=b then strLt x y else decide (a<b):=by
 refine(?_:@bN (λ_=>ah) (dB a b) (strLt x y) (bA a b)=_)
 rw [MT.beq_eq]
 by_cases h:a=b
 .simp [h]
 .simp only [jf h,bk h]
  refine(?_:eB (a+1) b=decide (a<b))
  by_cases q:a<b
  .rw [ix q];exact Jv q
  .rw [jf q]
   cases z:eB (a+1) b with
   |false=>rfl
   |true=>exact bP (dw z) q
theorem ad9(x:G H):∀y:G H,strLt x y=decide (x<y):=by
 induction x with
 |nil=>
  intro y
  rw [ad_]
  cases y with
  |nil=>simp
  |cons=>simp
 |cons a x O=>
  intro y
  cases y with
  |nil=>simp only [List.not_lt_nil,T5];rfl
  |cons b y=>
   rw [ad8,O y]
   by_cases h:a=b
   .subst h;simp [QB]
   .simp [QB,h]
theorem XO(k:G H)(v:D)(p:G H×D)(r:G (G H×D)):uZ k v (p::r)=if strLt k p.1=true then(k,v)::p::r else p::uZ k v r:=by
 refine(?_:@bN (λ_=>G (G H×D)) (p::uZ k v r) ((k,v)::p::r) (strLt k p.1)=_)
 cases strLt k p.1<;>rfl
theorem XQ(k:G H)(v:D)(B:G (G H×D)):(uZ k v B).Perm ((k,v)::B):=by
 induction B with
 |nil=>exact .refl _
 |cons p r O=>
  rw [XO]
  split
  .exact .refl _
  .exact(O.cons p).trans (.swap ..)
theorem HF:∀(B b_:G (G H×D)),(oU B b_).Perm (B++b_)
 |[],b_=>.refl _
 |p::B,b_=>by
  refine(?_:(oU B (uZ p.1 p.2 b_)).Perm _)
  refine(HF B _).trans ?_
  exact((XQ p.1 p.2 b_).append_left B).trans List.perm_middle
theorem TB(e:DF B=true):B.Pairwise λp q=>p.1<q.1:=by
 induction B with
 |nil=>exact .nil
 |cons p B O=>
  cases B with
  |nil=>exact List.pairwise_singleton _ _
  |cons q r=>
   refine xA (aN.mp (e:(strLt p.1 q.1&&DF (q::r))=true)) λe1 e2=>?_
   have h:=O e2
   rw [ad9] at e1
   have e1:=NS e1
   refine Q2.mpr ⟨λx hx=>?_,h⟩
   refine dC (bY.mp hx) (λrf=>?_) λhx=>?_
   .rw [rf];exact e1
   .exact QR e1 ((Q2.mp h).1 x hx)
theorem OL(e:tF B=some r):B.Pairwise (λp q=>p.1<q.1)/\B.length<64/\r=B.map (·.2):=by
 unfold tF at e
 refine xA (bI e) λI e=>?_
 cases e
 refine xA (aN.mp I) λc1 c2=>?_
 exact⟨TB c1,dw c2,rfl⟩
section
variable{ag:Type}{Z:cU ag}{ae:ag->Prop}{c:a_}{w:WB}{Y:bG}{own F F' C ao:G aA}{s:aT}{J h M:aP}{o:MH}{K:b8}{W:bQ}{mg mb:ar->aa aw}
noncomputable def KR(c:a_)(w:WB)(F C:G aA)(h:aP)(p:Keyed)(q:G H×D):Prop:=(∃x t,p.1=.str x t/\x.1.1=q.1)/\VR c w F C h q.2 p.2
theorem i0.qp(x:i0 (KR c w F C h) B r):aW c w F C h (r.map (·.2)) (B.map (·.2)):=by
 induction x with
 |nil=>exact .nil
 |cons p _ O=>exact .cons p.2 O
theorem KR.imp(f:∀m v,VR c w F C h m v->VR c w F' ao M m v)(x:i0 (KR c w F C h) B r):i0 (KR c w F' ao M) B r:=by
 induction x with
 |nil=>exact .nil
 |cons p _ O=>exact .cons ⟨p.1,f _ _ p.2⟩ O
theorem KR.key(x:i0 (KR c w F C h) xs.toList r)(e:r[i]?=some q):KK rW xs i=q.1:=by
 obtain⟨p,h1,⟨y,t,h2,h3⟩,_⟩:=x.at e
 have sF:xs[i]?=some p:=by simpa using h1
 unfold KK
 rw [sF]
 refine(?_:(rW.keyOf p.1).getD []=q.1)
 rw [h2]
 exact h3
theorem OJ(hk:i0 (KR c w F C h) zs ks)(hp:xs.toList.Perm zs)(hs:zB rW xs zs.length)(I:tF (oU ks [])=some B):
  aW c w F C h B (xs.map (·.2)).toList:=by
 refine cf (OL I) λc1 c2 aE=>?_;rw [aE]
 refine ay (hk.perm hp.symm) λr hr jh=>?_
 have hl:r.length=zs.length:=by rw [<-hr.length,hp.length_eq]
 have pr:r.Pairwise λp q=>¬q.1<p.1:=by
  rw [Cz]
  intro i j hi hj uR
  have h1:=hs i j (rS uR) (by lia)
  rw [KR.key hr (cV hi),KR.key hr (cV hj)] at h1
  have h2:decide (r[j].1<r[i].1)=false:=h1
  exact of_decide_eq_false h2
 have ps:(oU ks []).Pairwise λp q=>¬q.1<p.1:=c1.imp λ{a b} z y=>Jo _ (QR z y)
 have pm:r.Perm (oU ks []):=jh.symm.trans (by have:=(HF ks []).symm;rwa [h_] at this)
 have e:r=oU ks []:=by
  refine List.Perm.eq_of_pairwise (λa b ha hb h1 h2=>?_) pr ps pm
  have ny:=pm.mem_iff.mp ha
  have ek:a.1=b.1:=List.le_antisymm (Q1.mp h1) (Q1.mp h2)
  obtain⟨i,hi,ei⟩:=iE ny
  obtain⟨j,hj,ej⟩:=iE hb
  rw [Cz] at c1
  rcases Nat.lt_trichotomy i j with z|z|z
  .have:=c1 i j hi hj z
   rw [ei,ej,ek] at this
   exact bP this (Jo _)
  .subst z;exact ei.symm.trans ej
  .have:=c1 j i hj hi z
   rw [ei,ej,ek] at this
   exact bP this (Jo _)
 rw [<-e,Array.toList_map]
 exact hr.qp
end
section
variable{ag:Type}{Z:cU ag}{ae:ag->Prop}{c:a_}{w:WB}{Y:bG}{own F F' C ao:G aA}{s:aT}{J h M:aP}{o:MH}{K:b8}{W:bQ}{mg mb:ar->aa aw}
theorem ad6(e:strKeys (a::B)=some ks):∃s r,a=.str s/\strKeys B=some r/\(s.1.1,.str s)::r=ks:=by
 cases a with
 |str s=>
  have e:(match strKeys B with|some r=>some ((s.1.1,D.str s)::r)|.none=>.none)=some ks:=e
  generalize e1:strKeys B=ax at e
  cases ax with
  |none=>exact aB e
  |some r=>exact⟨s,r,rfl,rfl,aM e⟩
 |_=>exact aB e
theorem ad7:∀{ks:G (G H×D)},strKeys B=some ks->∃ss:G ar,B=ss.map D.str/\ks=ss.map λx=>(x.1.1,D.str x):=by
 induction B with
 |nil=>exact λe=>⟨[],rfl,(aM e).symm⟩
 |cons a B O=>
  intro ks e
  refine eO (ad6 e) λs r aE e' fV=>?_;subst aE;rw [<-fV]
  refine ay (O e') λss aI aE=>?_;rw [aI];rw [aE]
  exact⟨s::ss,rfl,rfl⟩
theorem ae6{L:Type}{key:L->D}{aR:G (L×aw)}(u:Under P key R aR):R.map (·.1)=aR.map λp=>key p.1:=by
 induction u with
 |nil=>rfl
 |cons a b O=>rw [lj,lj,O]
theorem aee:∀{b:G ar},a.map D.str=b.map D.str->a=b:=by
 induction a with
 |nil=>exact λ{b} e=>(Cw.mp e.symm).symm
 |cons x a O=>
  intro b e
  cases b with
  |nil=>exact xY e
  |cons y b=>
   refine xA (qz e) λe1 e2=>?_
   rw [D.str_inj e1,O e2]
theorem Sh(x:n9 V ss):(∀x∈ss,g8 x=true)->i0 (KR c w F C h) (V.zip V) (ss.map λx=>(x.1.1,D.str x)):=by
 induction x with
 |nil=>exact λ_=>.nil
 |cons y t _ O=>exact λok=>.cons ⟨⟨y,t,rfl,rfl⟩,⟨t,rfl⟩,ok y (.head _)⟩ (O λx hx=>ok x (.tail _ hx))
theorem aec:∀{V:G aw},V.length=ss.length->(∀(j:H) (v:aw),V[j]?=some v->∃x t,ss[j]?=some x/\v=Value.str x t)->n9 V ss:=by
 induction ss with
 |nil=>exact λe _=>wA.mp e▸.nil
 |cons x ss O=>
  intro V e q
  cases V with
  |nil=>exact bP e (rV _).symm
  |cons v V=>
   refine jv (q 0 v rfl) λx' t h1 bU=>?_;rw [bU]
   exact(aM h1)▸.cons _ t (O (lu e) λj=>q (j+1))
theorem OK(e:tF (oU ks [])=some B):B.length=ks.length/\ks.length<64:=by
 refine cf (OL e) λ_ c2 aE=>?_;subst aE
 have h:=(HF ks []).length_eq
 rw [h_] at h
 rw [cZ]
 exact⟨h,h▸c2⟩
theorem SU(hh:Y.handled=none)(Zk:bZ Z ae)(T:Top c w K W J mg mb)(S:St c w J F C o s.heap){x:aw}(e:ae (answer Z (Ds o a) o k))(va:VR c w F C s.heap a x):
  bc c w Y own C s (call (.builtin "sorted") [x]) (PV ae c w J F k):=by
 unfold Ds at e
 cases a with
 |ref i=>
  dsimp only at e
  generalize e1:dictAt o i=ax at e
  cases ax with
  |none=>exact(Zk.fail e).elim
  |some R=>
   dsimp only [OI] at e
   generalize e2:strKeys (R.map (·.1))=ax at e
   cases ax with
   |none=>exact(Zk.fail e).elim
   |some ks=>
    dsimp only at e
    generalize e3:tF (oU ks [])=ax at e
    cases ax with
    |none=>exact(Zk.fail e).elim
    |some B=>
     have e':ae (iV Z o (.list R.length (rv B)) k):=e
     obtain⟨ad,p1,rfl,⟨E,l4⟩,_⟩:=uB S e1 va
     have ns:=tL T S p1
     refine ay (ad7 e2) λss h1 aE=>?_;subst aE
     obtain⟨aR,d,u,sk⟩:∃aR,s.heap.DictOf (gE c w.w) ad aR/\Under (VR c w F C s.heap) D.str R aR/\∀p∈aR,g8 p.1=true:=by
      rcases E with E|⟨aR,d,u⟩
      .exact E
      .cases u with
       |nil=>exact⟨[],sh d,.nil,λ_ h=>(nomatch h)⟩
       |cons a b=>cases ss<;>simp at h1
     rw [ae6 u] at h1
     have Xn:ss=aR.map (·.1):=aee (by rw [<-h1,zk];rfl)
     subst Xn
     refine bw d.dictAt λep Wq=>?_
     refine xA (OK e3) λAy hl=>?_
     rw [cZ,cZ] at hl Ay
     have agq:R.length=aR.length:=u.length
     intro Q au q
     refine call_function_entry kind_sorted plain_sorted entry_sorted (args_sorted1 _) ?_
     unfold nT.«sorted»
     refine aO (m:=checkCount "sorted" 1 1 _) (bX ?_)
     refine aO (kdu_collect (A:=Y.in1) (kdl_dict (knd:=gE c w.w) (kvs:=aR) (ep:=ep) ns) hh Wq (jk (by lia)) λh1 tk b_ hk L5=>?_)
     have uU:b_.toList.length=aR.length:=by rw [hX];exact L5.1
     have hS:n9 b_.toList (aR.map (·.1)):=aec (by rw [uU,cZ]) λj v hv=>by
      refine jv (L5.2 j v (by rw [<-yY];exact hv)) λk x h3 h4=>?_
      refine bw (JQ h4) λt h5=>?_
      exact⟨k,t,by rw [tZ,h3];rfl,h5⟩
     refine aO (IE ?_ (jk (by lia)))
     have ho:(h1.push {cls:=.type "list",data:=.seq b_.toList.toArray}).get? h1.objs.size=some (eS "list" b_.toList.toArray 0):=hZ _ rfl
     refine aO (iP (IC RG ⟨_,ho,rfl⟩ RE (list_sort_treeK (s:={s with heap:=h1.push {cls:=.type "list",data:=.seq b_.toList.toArray},toks:=tk}) strKind_oneLt ho hS.keysOf (λahc ahd aY e=>keyKind_strs (ss:=aR.map (·.1)) (by rw [<-e];exact hS)) (by lia) λj9 hp hs=>⟨_,rfl,?_⟩) (PyProof.Rows.args_list_sort _)))
     refine bX ⟨_,rfl,?_⟩
     have gU:(jS j9).toList.Perm (b_.toList.zip b_.toList):=by rw [<-pairsOf_toList];exact Qa.mp hp
     have pQ:zB rW (jS j9) (b_.toList.zip b_.toList).length:=by
      rw [Ct,wH,uU];rw [pairsOf_size,uU] at hs;exact hs
     have key:=OJ (c:=c) (w:=w) (F:=F) (C:=C) (h:=s.heap) (Sh hS (λx hx=>by obtain⟨p,hp,rfl⟩:=cF.mp hx;exact sk p hp)) gU pQ e3
     have uS:∀b E,s.heap.get? b=some E->(sortedHeap (h1.push {cls:=.type "list",data:=.seq b_.toList.toArray}) h1.objs.size b_.toList ((jS j9).map (·.2))).get? b=some E:=λb E e=>by
      have e1:=hk b E e
      have lt:=wo e1
      rw [sortedHeap_old (rU lt) (by rw [HB];exact Jz lt)]
      exact fK _ _ _ _ e1
     refine bw (sortedHeap_at (vs:=b_.toList) (out:=(jS j9).map (·.2)) ho) λn' xH=>?_
     have AB:s.heap.get? h1.objs.size=none:=by
      cases z:s.heap.get? h1.objs.size with
      |none=>rfl
      |some E=>have:=hk _ _ z;rw [hV] at this;exact aB this
     generalize sortedHeap (h1.push {cls:=.type "list",data:=.seq b_.toList.toArray}) h1.objs.size b_.toList ((jS j9).map (·.2))=H' at uS xH⊢
     generalize (jS j9).map (·.2)=out at key xH
     refine xA (p_ (M:=H') Zk S e' AB uS λI st=>⟨out,n',xH,by rw [fD];exact(key.step st).reverse,by rw [fD,ez];lia,uv I⟩) λst pv=>?_
     exact q _ _ _ tk st.any pv
 |_=>exact(Zk.fail e).elim
end
section
variable{ag:Type}{Z:cU ag}{ae:ag->Prop}{c:a_}{w:WB}{Y:bG}{own F F' C ao:G aA}{s:aT}{J h M:aP}{o:MH}{K:b8}{W:bQ}{mg mb:ar->aa aw}
noncomputable def qu(ae:ag->Prop)(c:a_)(w:WB)(J:aP)(n:H)(cl:D->G D->MH->(D->MH->ag)->ag):Prop:=
 ∀(Y:bG) (F C:G aA) (s:aT) (o:MH) (f:D) (fv:aw) (B:G D) (V:G aw) (k:D->MH->ag),eY n Y->St c w J F C o s.heap->VR c w F C s.heap f fv->aW c w F C s.heap B V->
  ae (cl f B o k)->bc c w Y [] C s (call fv V) (PV ae c w J F k)
theorem eY.step{n:H}(x:eY (n+1) Y)(h1:A'.handled=Y.handled)(h2:A'.depth<=Y.depth+2)(h3:A'.units<=Y.units+16):eY n A':=
 have go:∀{a b I k:H},a<=b+k->a+k*n+I<=b+k*(n+1)+I:=λ{a b I k} h=>ua (dQ (ua h (k*n)) (CK (by rw [ph,Rn,mV k]))) I
 ⟨h1.trans x.1,zp (go h2) x.2.1,zp (go h3) x.2.2⟩
theorem zG:∀b E,h.get? b=some E->cM (a::F) C b->h.get? b=some E/\cM F (C++[a]) b:=λb E e x=>⟨e,λq=>x.1 (.tail _ q),λq=>by
 refine dC (dI.mp q) (λq=>?_) λq=>?_
 .exact x.2 q
 .rw [cA.mp q] at x;exact x.1 (.head _)⟩
theorem wQ:∀(i:H) (b:aA),C[i]?=some b->(C++[a])[i]?=some b:=λi b e=>by
 rw [iD (eM.mp e).1];exact e
theorem Gq(Zk:bZ Z ae)(S:St c w J (a::F) C o h)(na:a∉F)(e:ae (iV Z o E k))(ho:iB E=true->OR c w F (C++[a]) h a E):PV ae c w J F k (.ref a) (C++[a]) h:=by
 have e':ae (@bN (λ_=>ag) Z.fail (k (.ref o.n) ⟨o.t.ins o.n E,cX o.n⟩) (iB E&&cJ ((o.t.ins o.n E).get o.n))):=e
 refine xA (iU (x:=Z.fail) Zk e') λI pG=>?_
 refine xA (aN.mp I) λc1 c2=>?_
 obtain⟨⟨x0,agw⟩,nr,n0⟩:=S.cI a (.head _)
 have EL:((o.t.ins o.n E).get o.n).isSome=true:=by
  generalize q:(o.t.ins o.n E).get o.n=ax at c2
  cases ax with
  |none=>exact bz c2
  |some _=>rfl
 have pa:(C++[a])[o.n]?=some a:=by rw [S.len];simp
 refine⟨_,_,pG,⟨λb x e=>⟨(S.keep b x e).1,λq=>?_⟩,by simp [S.len],?_,λb hb=>?_,λi b e=>?_⟩,by exact⟨a,pa,rfl⟩⟩
 .refine dC (dI.mp q) (λq=>?_) λq=>?_
  .exact(S.keep b x e).2 q
  .rw [cA.mp q,n0] at e;exact aB e
 .rw [wD]
  exact⟨S.apart,by simp,λx hx y hy=>by rw [cA.mp hy];exact λe=>nr (e▸hx)⟩
 .refine cf (S.cI b (.tail _ hb)) λhx n1 n2=>?_
  refine⟨hx,λq=>?_,n2⟩
  refine dC (dI.mp q) (λq=>?_) λq=>?_
  .exact n1 q
  .rw [cA.mp q] at hb;exact na hb
 .rw [MT.get_ins E o.t o.n EL i]
  by_cases hi:i=o.n
  .subst hi
   rw [pa] at e
   cases e
   exact⟨E,by simp,ho c1⟩
  .rw [bk hi]
   have gS:i<C.length:=by
    have:=(eM.mp e).1
    rw [fy] at this
    simp at this
    rw [S.len] at hi
    lia
   rw [iD gS] at e
   refine ay (S.at_ i b e) λx hx r=>?_
   exact⟨x,hx,tj zG wQ rfl r⟩
theorem aed{x:ar}(a:n9 V ss):n9 (V++[.str x t]) (ss++[x]):=by
 induction a with
 |nil=>exact .cons x t .nil
 |cons y u _ O=>exact .cons y u O
theorem adF(O:Ops ag)(f v:D)(B:G D)(o:MH)(k:G (G H×D)->MH->ag):yD Z O f (v::B) o k=O.call f [v] o λu o=>match u with
  |.str s=>yD Z O f B o λB o=>k ((s.1.1,v)::B) o
  |_=>Z.fail:=rfl
theorem Oy{kS bj:aA}(S:St c w J F C o h)(hF:bj∈F)(st:bh [] C h ao M)(e:h.get? bj=some E):M.get? bj=some E:=st.keep bj E e (S.cI bj hF).2.1 λq=>nomatch q
theorem Ym(Zk:bZ Z ae){n:H}{O:Ops ag}(aq:qu ae c w J n O.call){f:D}{fv:aw}{kS bj:aA}{e1:H}(qR:kS≠bj)(hA:eY n Y){au:aw->aT->Prop}{Qd:CS->aT->Prop}{body:aw->CS->iT (rG CS)}
  (hb:∀(x:aw) (s:aT) (Q:rG CS->aT->Prop) (P:aw->aT->Prop),bo (bK c w.w) Y (call fv [x]) P (λ_ _=>dP) s->(∀v s',P v s'->bo (bK c w.w) Y (Builtin.List.listUpdate (.ref kS) (·.push v)) (λ_ acI=>Q (.yield ⟨⟩) acI) au s')->bo (bK c w.w) Y (body x ⟨⟩) Q au s):
  ∀(B:G D) (V:G aw) (s:aT) (C:G aA) (o:MH) (kA:dS aw) (e:H) (kz:G ar) (k:G (G H×D)->MH->ag),St c w J (kS::bj::F) C o s.heap->VR c w (kS::bj::F) C s.heap f fv->aW c w (kS::bj::F) C s.heap B V->
  s.heap.get? kS=some (eS "list" kA e)->s.heap.get? bj=some (eS "list" #[] e1)->n9 kA.toList kz->kA.size+B.length<=64->ae (yD Z O f B o k)->
  (∀ao br M tk MO e' (FI:G ar) ks,bh [kS] C s.heap ao M->St c w J (kS::bj::F) ao br M->M.get? kS=some (eS "list" MO e')->M.get? bj=some (eS "list" #[] e1)->n9 MO.toList (kz++FI)->FI.length=B.length->
   ks=(FI.map λx:ar=>x.1.1).zip B->ae (k ks br)->Qd ⟨⟩ {s with heap:=M,toks:=tk})->bo (bK c w.w) Y (sE V PUnit.unit body) Qd au s:=by
 intro gu
 induction gu with
 |nil=>
  intro V s C o kA e kz k S vf y gk gd sk hz hh done
  rw [y.dW,wz]
  exact bX (done C o s.heap s.toks kA e [] [] (.refl ..) S gk gd (by rw [h_];exact sk) rfl rfl hh)
 |cons m B fQ=>
  intro V s C o kA e kz k S vf y gk gd sk hz hh done
  refine dR.el y.cj λv gn aE y1 y2=>?_;rw [aE]
  rw [adF] at hh
  rw [o_]
  refine aO ?_
  refine hb v s _ (λu s'=>∃ao M tk,s'={s with heap:=M,toks:=tk}/\bh [] C s.heap ao M/\PV ae c w J (kS::bj::F) (λu o=>match u with
   |.str s=>yD Z O f B o λB o=>k ((s.1.1,m)::B) o
   |_=>Z.fail) u ao M) ?_ ?_
  .exact aq Y (kS::bj::F) C s o f fv [m] [v] _ hA S vf (.one y1) hh _ _ λa ao M tk st p=>⟨ao,M,tk,rfl,st,p⟩
  .rintro u s' ⟨ao,M,tk,rfl,st,mu,br,hu,S',vu⟩
   cases mu with
   |str x=>
    obtain⟨⟨t,rfl⟩,so⟩:=vu
    dsimp only at hu
    have LN:=Oy (kS:=kS) S (.head _) st gk
    have Wa:=Oy (kS:=kS) S (.tail _ (.head _)) st gd
    simp only [iQ] at hz
    refine FU LN rfl ?_ (jk (by lia)) (dQ (CK (Qb ..)) (by rw [rq];lia))
    have hs:=o8 M kS (fi (·.push (.str x t)))
    obtain⟨c2,kG⟩:∃c2,(M.update kS (fi (·.push (.str x t)))).get? kS=some (eS "list" (kA.push (.str x t)) c2):=⟨_,Ez LN (·.push (.str x t))⟩
    refine xA (S'.turn (.head _) hs ⟨_,kG⟩) λbp S2=>?_
    have hF:∀b∈[kS],b∈kS::bj::F:=λb hb=>by rw [cA.mp hb];exact .head _
    refine(?_:bo (bK c w.w) Y (sE gn PUnit.unit body) Qd au {s with heap:=M.update kS (fi (·.push (.str x t))),toks:=tk})
    refine fQ gn {s with heap:=M.update kS (fi (·.push (.str x t))),toks:=tk} ao br (kA.push (.str x t)) c2 (kz++[x]) _ S2 ((vf.step st).fx hF bp) ((y2.step st).fx hF bp) kG ((hs.2 bj qR.symm).trans Wa) (by rw [IW];exact aed sk) (by rw [Qb];lia) hu ?_
    intro dY hM h3 ey Yi e3 Yv agE dp S3 Al xB adu W8 W5 dX
    refine done dY hM h3 ey Yi e3 (x::Yv) _ ((st.any (own:=[kS])).trans (bp.trans dp)) S3 Al xB (by rw [List.append_cons];exact adu) (by rw [iQ,iQ,W8]) ?_ dX
    rw [lj,CD,W5]
   |_=>exact(Zk.fail hu).elim
end
section
variable{ag:Type}{Z:cU ag}{ae:ag->Prop}{c:a_}{w:WB}{Y:bG}{own F F' C ao:G aA}{s:aT}{J h M:aP}{o:MH}{K:b8}{W:bQ}{mg mb:ar->aa aw}
theorem aef(hS:n9 V ss)(h2:2<=V.length):keyKind' V.toArray=pure oneType':=by
 match V,hS,h2 with
 |[],_,h2=>simp at h2
 |[_],_,h2=>simp at h2
 |_::_::_,hS,_=>exact keyKind_strs hS
theorem Yo(qR:kS≠bj)(gk:s.heap.get? kS=some (eS "list" j3 e))(gd:s.heap.get? bj=some (eS "list" #[] e1))(hS:n9 j3.toList ss)
  (hl:j3.size=V.length) (LV:V.length<64)
  (done:∀(xs:dS Keyed) (I:H) M,xs.toList.Perm (j3.toList.zip V)->zB rW xs (j3.toList.zip V).length->(∀b,b≠kS->b≠bj->M.get? b=s.heap.get? b)->(∃E,M.get? kS=some E)->M.get? bj=some (eS "list" (xs.map (·.2)) I)->P (.done (.ret .none)) {s with heap:=M}):
  bo (bK c w.w) Y (ksk_end bj false V.toArray e1 (.ref kS) j3) P au s:=by
 have xP:(j3.zip V.toArray).size=V.length:=by rw [Array.size_zip,hl,t8,wH]
 have XB:(j3.toList.zip V).length=V.length:=by rw [Ct,hX,hl,wH]
 have tail:∀st:SortSt,(jS st).Perm (j3.zip V.toArray)->zB rW (jS st) (j3.zip V.toArray).size->failedOf st=none->bo (bK c w.w) Y (ksk_tail bj false e1 (.ref kS) st) P au s:=by
  intro st hp hs WO
  have s1:=o8 s.heap kS (fi λ_=>(#[]:dS aw))
  have Gj:(s.heap.update kS (fi λ_=>(#[]:dS aw))).get? bj=some (eS "list" #[] e1):=(s1.2 bj qR.symm).trans gd
  have aaA:∃E,(s.heap.update kS (fi λ_=>(#[]:dS aw))).get? kS=some E:=⟨_,Ez gk λ_=>#[]⟩
  have s2:=o8 (s.heap.update kS (fi λ_=>(#[]:dS aw))) bj (fi λ_=>(jS st).map (·.2))
  obtain⟨c2,kG⟩:∃c2,((s.heap.update kS (fi λ_=>(#[]:dS aw))).update bj (fi λ_=>(jS st).map (·.2))).get? bj=some (eS "list" ((jS st).map (·.2)) c2):=⟨_,Ez Gj λ_=>(jS st).map (·.2)⟩
  have Xe:((jS st).map (·.2)).size=V.length:=by rw [Array.size_map,hp.size_eq,xP]
  unfold ksk_tail
  try dsimp only
  refine aO (FU gk rfl ?_ (by rw [hl,rq];lia) (gD _))
  refine aO (wpAny_letGo ?_)
  refine aO (seqEpoch_at Gj rfl ?_)
  rw [bk fY]
  refine aO (FU Gj rfl ?_ (gD _) (dQ (CK Xe) (by rw [rq];lia)))
  rw [WO]
  rw [bk (by rw [bne_self_eq_false];exact fY)]
  refine bX (done (jS st) c2 _ ?_ ?_ (λb h1 h2=>(s2.2 b h2).trans (s1.2 b h1)) ?_ kG)
  .have:=Qa.mp hp
   rwa [ksk_zip] at this
  .rw [XB];rw [xP] at hs;exact hs
  .refine bw aaA λE ho=>?_
   exact⟨E,(s2.2 kS qR).trans ho⟩
 unfold ksk_end
 try dsimp only
 rw [bk fY]
 by_cases h2:V.toArray.size<2
 .rw [bT h2,bT h2]
  refine aO (bX ?_)
  rw [StateT.run_pure]
  refine aO (bX ?_)
  try dsimp only
  refine tail (SortSt.mk' general' (j3.zip V.toArray) #[] 7 none) (.refl _) ?_ rfl
  intro i j uR hj
  rw [xP] at hj
  rw [t8] at h2
  have:i=j:=by lia
  rw [this]
  exact KeyOrd.kle_refl _
 .rw [bk h2,bk h2]
  rw [t8] at h2
  have hk:keyKind' j3=pure oneType':=by
   have:=aef hS (by rw [hX];lia)
   rwa [IV] at this
  rw [hk]
  refine aO (bX ?_)
  refine aO (qq (wpS_sortRunsK (κ:=rW) strKind_oneLt (a₀:=j3.zip V.toArray) (st:=SortSt.mk' oneType' (j3.zip V.toArray) #[] 7 none)
   (Q:=λ_ j9=>(jS j9).Perm (j3.zip V.toArray)/\failedOf j9=none/\zB rW (jS j9) (j3.zip V.toArray).size)
   (λp hp=>?_) ⟨.refl _,rfl,rfl,rfl⟩ (by rw [xP];exact g7.mp (by assumption)) (by rw [xP];exact LV) λj9 a1 a2 a3=>⟨a1,a2,a3⟩) ?_ λ_ _ e=>e)
  .rw [ksk_zip] at hp
   obtain⟨x,y⟩:=p
   refine gK (hS.all _ (List.of_mem_zip hp).1) λz t e=>?_
   exact⟨z.cps.toList,by dsimp only at e⊢;rw [e]⟩
  .rintro ⟨⟨⟩,j9⟩ s' ⟨rfl,hp,hf,hs⟩
   try dsimp only
   exact tail j9 hp hs hf
theorem Si(a:n9 us ss):aW c w F C h B V->ss.length=B.length->i0 (KR c w F C h) (us.zip V) ((ss.map λx:ar=>x.1.1).zip B):=by
 induction a generalizing B V with
 |nil=>exact λy e=>wA.mp e.symm▸.nil
 |cons x t _ O=>
  intro y e
  cases B with
  |nil=>exact bP e (rV _)
  |cons m B=>
   obtain⟨v,gn,rfl,y1,y2⟩:=y.cj
   exact .cons ⟨⟨x,t,rfl,rfl⟩,y1⟩ (O y2 (lu e))
end
section
variable{ag:Type}{Z:cU ag}{ae:ag->Prop}{c:a_}{w:WB}{Y:bG}{own F F' C ao:G aA}{s:aT}{J h M:aP}{o:MH}{K:b8}{W:bQ}{mg mb:ar->aa aw}
theorem adE(Zk:bZ Z ae)(aq:qu ae c w J n O.call)(hA:eY (n+1) Y)(S:St c w J F C o s.heap)(e:ae (HE Z O u g o k))(vx:VR c w F C s.heap u x)(vy:VR c w F C s.heap g y):
  bc c w Y own C s (call (.builtin "sorted") [x] [(rX "key",y)]) (PV ae c w J F k):=by
 unfold HE at e
 cases g with
 |fn q=>
  dsimp only at e
  generalize e1:eV o u=ax at e
  cases ax with
  |none=>exact(Zk.fail e).elim
  |some p=>
   dsimp only at e
   refine LstAt.el (nF S e1 vx) λad V n' bU g0 y0 B l4=>?_;subst bU
   have Iz:=vy
   subst vy
   rw [fD] at e
   have yl:aW c w F C s.heap p.2.reverse V.toList:=by have:=y0.reverse;rwa [mU] at this
   have uU:V.toList.length=p.2.length:=by rw [yl.length,ez]
   generalize Tu:dB p.2.length 64=ax at e
   cases ax with
   |false=>exact(Zk.fail e).elim
   |true=>
   dsimp only at e
   have LV:p.2.length<64:=dw Tu
   intro Q au done
   refine call_function_entry_kw kind_sorted plain_sorted entry_sorted (ksk_s1 _ _) ?_
   unfold nT.«sorted»
   refine aO (m:=checkCount "sorted" 1 1 _) (bX ?_)
   refine aO (collect_list (vs:=V.toList) ⟨_,g0,rfl,n',rfl⟩ ?_ (by rw [rq];lia))
   refine aO (IE ?_ (by rw [rq];lia))
   have lD:((s.heap.push (eS "list" #[] 0)).update s.heap.objs.size (fi (· ++V.toList.toArray))).objs.size=s.heap.objs.size+1:=by
    rw [Heap.size_update,HB]
   have xK:(((s.heap.push (eS "list" #[] 0)).update s.heap.objs.size (fi (· ++V.toList.toArray))).push (eS "list" V.toList.toArray 0)).get? (s.heap.objs.size+1)=some (eS "list" V.toList.toArray 0):=by
    rw [<-lD];exact hZ _ rfl
   have keep:∀b E,s.heap.get? b=some E->(((s.heap.push (eS "list" #[] 0)).update s.heap.objs.size (fi (· ++V.toList.toArray))).push (eS "list" V.toList.toArray 0)).get? b=some E:=λb E q=>by
    have gS:b<s.heap.objs.size:=wo q
    rw [Qr _ _ _ (by rw [lD];exact rU (Jz gS)),Heap.get?_update_ne _ _ _ _ (rU gS),Qr _ _ _ (rU gS)]
    exact q
   have Mk:(((s.heap.push (eS "list" #[] 0)).update s.heap.objs.size (fi (· ++V.toList.toArray))).push (eS "list" V.toList.toArray 0)).objs.size=s.heap.objs.size+2:=by rw [HB,lD]
   refine(?_:bo _ _ _ _ _ {s with heap:=((s.heap.push (eS "list" #[] 0)).update s.heap.objs.size (fi (· ++V.toList.toArray))).push (eS "list" V.toList.toArray 0)})
   rw [lD]
   generalize ((s.heap.push (eS "list" #[] 0)).update s.heap.objs.size (fi (· ++V.toList.toArray))).push (eS "list" V.toList.toArray 0)=lg at xK keep Mk⊢
   refine aO (iP (wpAny_call_entry_kw RG ⟨_,xK,rfl⟩ RE ?body (ksk_l1 _ _)))
   refine(?_:bo (bK c w.w) Y.in1.in1 (nT.«list.sort» ⟨[.ref (s.heap.objs.size+1)],[(rX "key",.ref q)]⟩) _ _ _)
   rw [ksk_t1]
   have D0:s.heap.get? (s.heap.objs.size+1)=none:=by
    cases z:s.heap.get? (s.heap.objs.size+1) with
    |none=>rfl
    |some E=>exact bP (wo z) (Rp (ig _ _))
   generalize hD:s.heap.objs.size+1=bj at*
   have s1:=o8 lg bj (fi λ_=>(#[]:dS aw))
   obtain⟨Aa,AE⟩:∃e1,(lg.update bj (fi λ_=>(#[]:dS aw))).get? bj=some (eS "list" #[] e1):=⟨_,Ez xK λ_=>#[]⟩
   have Mf:((lg.update bj (fi λ_=>(#[]:dS aw))).push (eS "tuple" V.toList.toArray 0)).objs.size=s.heap.objs.size+3:=by rw [HB,Heap.size_update,Mk]
   unfold ksk_tree
   refine aO (listItems_at xK rfl ?_)
   refine aO (FU xK rfl ?_ (by rw [t8,rq];lia) (gD _))
   refine aO (seqEpoch_at AE rfl ?_)
   refine aO (wpAny_newTuple ?_ (by show V.toList.length<=_;rw [rq];lia))
   refine aO (IE ?_ (gD _))
   refine iP ?_
   have Fz:s.heap.get? (s.heap.objs.size+3)=none:=by
    cases z:s.heap.get? (s.heap.objs.size+3) with
    |none=>rfl
    |some E=>exact bP (wo z) (Rp (ig _ _))
   have Ak:(((lg.update bj (fi λ_=>(#[]:dS aw))).push (eS "tuple" V.toList.toArray 0)).push (eS "list" #[] 0)).get? (s.heap.objs.size+3)=some (eS "list" #[] 0):=by rw [<-Mf];exact hZ _ rfl
   have Ey:(((lg.update bj (fi λ_=>(#[]:dS aw))).push (eS "tuple" V.toList.toArray 0)).push (eS "list" #[] 0)).get? bj=some (eS "list" #[] Aa):=fK _ _ _ _ (fK _ _ _ _ AE)
   have FA:∀b E,s.heap.get? b=some E->(((lg.update bj (fi λ_=>(#[]:dS aw))).push (eS "tuple" V.toList.toArray 0)).push (eS "list" #[] 0)).get? b=some E:=λb E e=>by
    have:b≠bj:=qQ D0 e
    exact fK _ _ _ _ (fK _ _ _ _ ((s1.2 b this).trans (keep b E e)))
   refine(?_:bo (bK c w.w) Y.in1.in1 (ksk_rest bj (.ref q) false V.toList.toArray Aa (.ref ((lg.update bj (fi λ_=>(#[]:dS aw))).push (eS "tuple" V.toList.toArray 0)).objs.size)) _ _ {s with heap:=((lg.update bj (fi λ_=>(#[]:dS aw))).push (eS "tuple" V.toList.toArray 0)).push (eS "list" #[] 0)})
   rw [Mf]
   generalize ((lg.update bj (fi λ_=>(#[]:dS aw))).push (eS "tuple" V.toList.toArray 0)).push (eS "list" #[] 0)=H2 at Ak Ey FA⊢
   have qR:s.heap.objs.size+3≠bj:=by lia
   generalize s.heap.objs.size+3=kS at Fz Ak qR⊢
   have fr:jx J s.heap H2 C [kS,bj]:=⟨FA,λb hb=>by
    refine dC (bY.mp hb) (λrf=>?_) λhb=>?_
    .rw [rf];exact⟨Fz,_,Ak⟩
    .rw [cA.mp hb];exact⟨D0,_,Ey⟩⟩
   have S2:St c w J (kS::bj::F) C o H2:=S.enter fr
   refine cf (S.lO D0) λd1 d2 d3=>?_
   refine cf (S.lO Fz) λk1 k2 k3=>?_
   unfold ksk_rest
   refine aO (yU ?_)
   rw [List.forIn_toArray]
   refine aO ?_
   refine Ym (Y:=Y.in1.in1) (s:={s with heap:=H2}) Zk aq qR (hA.step rfl (ig _ 2) (by show Y.units+1+1<=_;lia)) ?_ p.2.reverse V.toList C o #[] 0 [] _ S2 (Iz.enter fr) (yl.enter fr) Ak Ey .nil (by rw [ez];show 0+_<=_;lia) e ?_
   .intro x s Q P h1 h2
    refine aO (PS (qq h1 (λv s' hv=>?_) λ_ _ hF=>hF.elim))
    exact aO (qq (h2 v s' hv) (λ_ _ z=>bX z) λ_ _ z=>z)
   .intro ao br M tk kA e' kz ks st S3 gk gd sk hl hk hh
    refine ay (gW Zk hh) λls e3 hh=>?_
    rw [List.nil_append] at sk
    have W7:kA.size=V.toList.length:=by
     have:=sk.len_eq
     rw [hX] at this
     rw [this,hl,ez,uU]
    have y3:aW c w (kS::bj::F) ao M p.2.reverse V.toList:=(yl.enter fr).fx (own:=[kS]) (λb hb=>by rw [cA.mp hb];exact .head _) st
    try dsimp only
    refine aO (listItems_at gk rfl ?_)
    refine Yo (s:={s with heap:=M,toks:=tk}) qR gk gd sk W7 (by lia) λxs I h3 hp hs Ws Al xB=>?_
    refine⟨_,rfl,bX ⟨_,rfl,?_⟩⟩
    have key:=OJ (Si sk y3 hl) hp hs (by rw [<-hk];exact e3)
    have xD:∀b,b≠kS->b≠bj->h3.get? b=M.get? b:=Ws
    have dp:bh [kS,bj] ao M ao h3:=⟨mT _,λb E e n m=>(xD b (λq=>m (q▸.head _)) (λq=>m (q▸.tail _ (.head _)))).trans e,λb E e n=>by
     by_cases q1:b=kS
     .obtain rfl:=q1.symm;exact⟨Al,n⟩
     .by_cases q2:b=bj
      .obtain rfl:=q2.symm;exact⟨⟨_,xB⟩,n⟩
      .exact⟨⟨E,(xD b q1 q2).trans e⟩,n⟩⟩
    have dG:∀b∈[kS,bj],b∈kS::bj::F:=λb hb=>iR F (by exact hb:b∈[kS,bj])
    have S4:St c w J (kS::bj::F) ao br h3:=S3.side dG dp (λb x e=>by
     have n1:b≠kS:=λq=>by rw [q,k3] at e;exact aB e
     have n2:b≠bj:=λq=>by rw [q,d3] at e;exact aB e
     exact(xD b n1 n2).trans (S3.keep b x e).1) (λb hb=>xD b (λq=>(S3.cI kS (.head _)).2.1 (q▸hb)) (λq=>(S3.cI bj (.tail _ (.head _))).2.1 (q▸hb))) (λb hb=>by
     by_cases q1:b=kS
     .rw [q1];exact Al
     .by_cases q2:b=bj
      .rw [q2];exact⟨_,xB⟩
      .obtain⟨⟨E,ho⟩,_⟩:=S3.cI b hb
       exact⟨E,(xD b q1 q2).trans ho⟩)
    have Yk:=key.fx dG dp
    have S5:St c w J (bj::F) ao br h3:=St.leave (new:=[kS]) S4
    have Yl:aW c w (bj::F) ao h3 ls (xs.map (·.2)).toList:=aW.leave (new:=[kS]) Yk
    have MQ:aW c w F (ao++[bj]) h3 ls (xs.map (·.2)).toList:=Yl.mono zG (.inr wQ)
    have pv:=Gq Zk S5 d2 hh λoc=>⟨_,I,xB,by rw [fD];exact MQ.reverse,by rw [fD,ez];have:=MQ.length;have:=(OK e3).1;rw [hk,Ct,cZ,hl,wH,ez] at this;lia,uv oc⟩
    refine done _ _ h3 tk ?_ pv
    have adO:bh [kS,bj] C s.heap ao h3:=((bh.of_keeps FA).trans (st.more λb hb=>.inl (by rw [cA.mp hb];exact .head _))).trans dp
    have BP:bh own C s.heap ao h3:=adO.more λb hb=>.inr (fr.new b hb).1
    exact⟨BP.pre.trans (wF ..),BP.keep,λb E e n=>⟨(BP.out b E e n).1,λq=>by
     refine dC (dI.mp q) (λq=>?_) λq=>?_
     .exact(BP.out b E e n).2 q
     .rw [cA.mp q,D0] at e;exact aB e⟩⟩
 |_=>exact(Zk.fail e).elim
end
section
variable{ag:Type}{Z:cU ag}{ae:ag->Prop}{c:a_}{w:WB}{Y:bG}{own F F' C ao:G aA}{s:aT}{J h M:aP}{o:MH}{K:b8}{W:bQ}{mg mb:ar->aa aw}
theorem Tp(hh:Y.handled=none)(Zk:bZ Z ae)(T:Top c w K W J mg mb)(S:St c w J F C o s.heap)(e:ae (answer Z (Kc o f B) o k))(vl:aW c w F C s.heap B V):
  bc c w Y own C s (call f.value V) (PV ae c w J F k):=by
 match B,vl,e with
 |[],vl,e=>exact(Zk.fail e).elim
 |[a],vl,e=>
  refine dR.el vl.cj λv gn aE y1 y2=>?_;subst aE
  rw [y2.dW]
  cases f with
  |list=>exact SP Zk S e y1
  |tuple=>exact SY Zk S e y1
  |dict=>exact SM hh Zk T S e y1
  |str=>exact SV Zk S e y1
  |int=>exact SN Zk S e y1
  |len=>exact SO Zk T S e y1
  |max=>exact SQ hh Zk S e y1
  |sum=>exact SX hh Zk S e y1
  |sorted=>exact SU hh Zk T S e y1
  |min=>exact(Zk.fail e).elim
  |range=>exact(Zk.fail e).elim
  |zip=>exact(Zk.fail e).elim
 |[a,b],vl,e=>
  refine dR.el vl.cj λv gn aE y1 y2=>?_;rw [aE]
  replace y2:=y2.cj;obtain⟨u,gn,rfl,y2,y3⟩:=y2
  rw [y3.dW]
  exact SR hh Zk S e y1 y2
 |_::_::_::_,vl,e=>exact(Zk.fail e).elim
end
structure Ctx(c:a_)(w:WB)(J:aP)(n:H)(Y:bG)(F C:G aA)(s:aT)(o:MH)(cx:Cx)(fr:Fm)(X:cK):Prop where
 room:eY n Y
 st:St c w J F C o s.heap
 fr:cH c w F C s.heap cx fr X
noncomputable def fm{ag:Type}(ae:ag->Prop)(c:a_)(w:WB)(J:aP)(n:H)(ev:Cx->aX->Fm->MH->(D->MH->ag)->ag):Prop:=
 ∀(Y:bG) (F C:G aA) (s:aT) (o:MH) (cx:Cx) (e:aX) (fr:Fm) (X:cK) (k:D->MH->ag),Ctx c w J n Y F C s o cx fr X->ae (ev cx e fr o k)->bc c w Y [] C s (eval e X) (PV ae c w J F k)
noncomputable def mW{ag:Type}(ae:ag->Prop)(c:a_)(w:WB)(J:aP)(n:H)(fh:Cx->aX->Fm->MH->(ah->MH->ag)->ag):Prop:=
 ∀(Y:bG) (F C:G aA) (s:aT) (o:MH) (cx:Cx) (e:aX) (fr:Fm) (X:cK) (k:ah->MH->ag),Ctx c w J n Y F C s o cx fr X->ae (fh cx e fr o k)->bc c w Y [] C s (isTrue e X (eval e X)) (PB ae c w J F k)
section
variable{ag:Type}{Z:cU ag}{ae:ag->Prop}{c:a_}{w:WB}{Y:bG}{own F F' C ao:G aA}{s:aT}{J h M:aP}{o br:MH}{K:b8}{W:bQ}{mg mb:ar->aa aw}{n:H}{cx:Cx}{fr:Fm}{X:cK}{O:Ops ag}
theorem Ctx.next(aq:Ctx c w J n Y F C s o cx fr X)(st:bh [] C s.heap ao M)(S':St c w J F ao br M)(tk:H):Ctx c w J n Y F ao {s with heap:=M,toks:=tk} br cx fr X:=
 ⟨aq.room,S',aq.fr.step st λa ha=>(aq.st.cI a ha).2.1⟩
theorem Ctx.tok(aq:Ctx c w J n Y F C s o cx fr X)(tk:H):Ctx c w J n Y F C {s with toks:=tk} o cx fr X:=⟨aq.room,aq.st,aq.fr⟩
theorem Ctx.lower(aq:Ctx c w J (n+1) Y F C s o cx fr X):Ctx c w J n Y F C s o cx fr X:=⟨aq.room.down,aq.st,aq.fr⟩
theorem Ctx.units(aq:Ctx c w J n Y F C s o cx fr X):Y.units+61<fP:=by
 have:=aq.room.2.2
 have:fP=9900:=rfl
 lia
theorem s_(h:gG (e::B)=true):gG B=true/\∀X,rt (e::B) X=(false,eval e X)::rt B X:=by
 cases e<;>first|exact⟨h,λ_=>rfl⟩|exact mQ (h:false=true)
theorem Ej(bl:fm ae c w J n O.ev):∀(R:G aX) (C:G aA) (s:aT) (o:MH) (k:G D->MH->ag),Ctx c w J n Y F C s o cx fr X->gG R=true->ae (sy O cx R fr o k)->
  bc c w Y [] C s (spliced (uu pos (rt R X))) (JF ae c w J F k):=by
 intro gu
 induction gu with
 |nil=>
  intro C s o k aq ns e
  exact λQ au q=>wpAny_items_nil (q [] C s.heap s.toks (.refl ..) ⟨[],o,e,aq.st,.nil⟩)
 |cons e R fQ=>
  intro C s o k aq ns hh
  exact λQ au q=>by
   refine xA (s_ ns) λaaG hs=>?_
   refine wpAny_items_cons ?_ (hs X)
   refine bl Y F C s o cx e fr X _ aq hh _ _ λv bq h1 aZ aS p1=>?_
   obtain⟨m,bM,bR,S1,v1⟩:=p1
   refine fQ bq {s with heap:=h1,toks:=aZ} bM _ (aq.next aS S1 aZ) aaG bR _ _ λV bf h2 bS bp p2=>?_
   obtain⟨B,dz,de,S2,v2⟩:=p2
   exact q (v::V) bf h2 bS (aS.trans bp) ⟨m::B,dz,de,S2,.cons (v1.step bp) v2⟩
theorem PV.intro(e:ae (k m o))(S:St c w J F C o h)(x:VR c w F C h m v):PV ae c w J F k v C h:=⟨m,o,e,S,x⟩
theorem aa0(e:Bg B=true):∀I∈B,I<0x110000:=by
 induction B with
 |nil=>exact λI h=>nomatch h
 |cons a B O=>
  have e':@bN (λ_=>ah) false (Bg B) (dB a 1114112)=true:=e
  generalize q:dB a 1114112=ax at e'
  cases ax with
  |false=>exact bz e'
  |true=>
   exact λI h=>(bY.mp h).elim (λz=>z▸dw q) (O e' I)
theorem TV(Zk:bZ Z ae)(aq:Ctx c w J n Y F C s o cx fr X)(e:ae (Lo Z I o k)):bc c w Y [] C s (eval (.Constant I kd pos) X) (PV ae c w J F k):=by
 intro Q au q
 cases I with
 |none=>exact wpAny_Constant_none (q _ C s.heap s.toks (.refl ..) (.intro e aq.st (by rfl)))
 |bool b=>exact wpAny_Constant_bool (q _ C s.heap s.toks (.refl ..) (.intro e aq.st (by rfl)))
 |int i=>exact wpAny_Constant_int (q _ C s.heap _ (.refl ..) (.intro e aq.st (by exact⟨_,rfl⟩)))
 |str x=>
  refine xA (iU (x:=Z.fail) Zk (e:ae (@bN (λ_=>ag) Z.fail (k (.str x) o) (Bg x.1.1)))) λc1 e=>?_
  exact wpAny_Constant_str (q _ C s.heap _ (.refl ..) (.intro e aq.st (by exact⟨⟨_,rfl⟩,HN.mpr (aa0 c1)⟩)))
 |_=>exact(Zk.fail e).elim
theorem T4:tC=("__debug__" :ar):=by decide+kernel
theorem NP(h:(!(seq x tC))=true):(x==("__debug__" :ar))=false:=by
 refine mn.mpr λq=>?_
 rw [<-T4] at q
 rw [lV.mpr q] at h
 exact bz h
theorem UR(Zk:bZ Z ae)(T:Top c w K W J mg mb)(aq:Ctx c w J n Y F C s o cx fr X)(hx:(x==("__debug__" :ar))=false)(e:ae (K7 Z W x cx fr o k)):bc c w Y [] C s (eval (.Name x pos) X) (PV ae c w J F k):=by
 refine ay (gW Zk e) λm e1 e2=>?_
 refine ay (Nv (Y:=Y) T aq.st aq.fr e1) λv x1 x2=>?_
 exact λQ au q=>wpAny_Name (x2 Q au (q v C s.heap s.toks (.refl ..) (.intro e2 aq.st x1))) hx
theorem Vi(Zk:bZ Z ae)(bl:fm ae c w J n O.ev)(aq:Ctx c w J n Y F C s o cx fr X)(e:ae (La Z O op a cx fr o k)):bc c w Y [] C s (eval (.UnaryOp op a pos) X) (PV ae c w J F k):=by
 intro Q au q
 refine wpAny_UnaryOp (bl Y F C s o cx a fr X _ aq e _ _ λv1 bq h1 aZ aS p1=>?_)
 obtain⟨m1,bM,bR,S1,x1⟩:=p1
 refine ay (gW Zk bR) λm2 e2 de=>?_
 exact ae5 (s:={s with heap:=h1,toks:=aZ}) (own:=[]) Zk S1 e2 de x1 _ _ λv2 bf h2 bS bp p2=>q v2 bf h2 bS (aS.trans bp) p2
theorem UE(Zk:bZ Z ae)(bl:fm ae c w J n O.ev)(aq:Ctx c w J n Y F C s o cx fr X)(e:ae (KZ Z O a op b cx fr o k)):bc c w Y [] C s (eval (.BinOp a op b pos) X) (PV ae c w J F k):=by
 intro Q au q
 refine wpAny_BinOp (bl Y F C s o cx a fr X _ aq e _ _ λv1 bq h1 aZ aS p1=>?_)
 obtain⟨m1,bM,bR,S1,x1⟩:=p1
 refine bl Y F bq _ bM cx b fr X _ (aq.next aS S1 aZ) bR _ _ λv2 bf h2 bS bp p2=>?_
 obtain⟨m2,dz,de,S2,x2⟩:=p2
 exact S0 (s:={s with heap:=h2,toks:=bS}) (own:=[]) Zk S2 de (x1.step bp) x2 _ _ λv3 dY h3 ey dp p3=>q v3 dY h3 ey (aS.trans (bp.trans dp)) p3
theorem agS(h:∀R k p,b≠.Set R k p):Dm op b=false:=by
 cases b<;>first|rfl|exact bP rfl (h _ _ _)
theorem UH(Zk:bZ Z ae)(T:Top c w K W J mg mb)(bl:fm ae c w J n O.ev)(aq:Ctx c w J n Y F C s o cx fr X)(hm:Dm op b=false)(e:ae (K1 Z W O a op b cx fr o k)):bc c w Y [] C s (eval (.Compare a [op] [b] pos) X) (PV ae c w J F k):=by
 intro Q au q
 refine wpAny_Compare1 (bl Y F C s o cx a fr X _ aq e _ _ λv1 bq h1 aZ aS p1=>?_) hm
 obtain⟨m1,bM,bR,S1,x1⟩:=p1
 refine bl Y F bq _ bM cx b fr X _ (aq.next aS S1 aZ) bR _ _ λv2 bf h2 bS bp p2=>?_
 obtain⟨m2,dz,de,S2,x2⟩:=p2
 refine ay (gW Zk de) λr e3 dX=>?_
 refine Kw (s:={s with heap:=h2,toks:=bS}) (own:=[]) T S2 aq.units e3 (x1.step bp) x2 _ _ λv3 dY h3 ey dp p3=>?_
 refine cf p3 ?_;clear p3;intro eJ aI aE;subst eJ;obtain rfl:=aI.symm;obtain rfl:=aE.symm
 exact q _ _ _ ey (aS.trans (bp.trans dp)) (.intro dX S2 (by rfl))
theorem UN(bl:fm ae c w J n O.ev)(fF:mW ae c w J n O.fh)(aq:Ctx c w J n Y F C s o cx fr X)(e:ae (K3 O t a b cx fr o k)):bc c w Y [] C s (eval (.IfExp t a b pos) X) (PV ae c w J F k):=by
 intro Q au q
 refine wpAny_IfExp (fF Y F C s o cx t fr X _ aq e _ _ λI bq h1 aZ aS p1=>?_)
 obtain⟨bM,bR,S1⟩:=p1
 cases I with
 |true=>
  rw [bT rfl]
  exact bl Y F bq _ bM cx a fr X _ (aq.next aS S1 aZ) bR _ _ λv2 bf h2 bS bp p2=>q v2 bf h2 bS (aS.trans bp) p2
 |false=>
  rw [bk fY]
  exact bl Y F bq _ bM cx b fr X _ (aq.next aS S1 aZ) bR _ _ λv2 bf h2 bS bp p2=>q v2 bf h2 bS (aS.trans bp) p2
theorem Vh(Zk:bZ Z ae)(bl:fm ae c w J n O.ev)(aq:Ctx c w J n Y F C s o cx fr X)(ns:gG R=true)(e:ae (K_ Z O R cx fr o k)):bc c w Y [] C s (eval (.Tuple R kd pos) X) (PV ae c w J F k):=by
 intro Q au q
 refine wpAny_Tuple (Ej bl R C s o _ aq ns e _ _ λV bq h1 aZ aS p1=>?_)
 obtain⟨B,bM,bR,S1,y1⟩:=p1
 refine xA (iU (x:=Z.fail) Zk bR) λI bR=>?_
 have I:=j4 I
 refine⟨jk (by rw [y1.length];exact I),?_⟩
 refine xA (Gu (s:={s with heap:=h1,toks:=aZ}) S1 bR y1) λbp pv=>?_
 exact q _ bq _ aZ (aS.trans bp) pv
theorem UP(Zk:bZ Z ae)(bl:fm ae c w J n O.ev)(aq:Ctx c w J n Y F C s o cx fr X)(ns:gG R=true)(e:ae (K5 Z O R cx fr o k)):bc c w Y [] C s (eval (.List R pos) X) (PV ae c w J F k):=by
 intro Q au q
 refine wpAny_List (Ej bl R C s o _ aq ns e _ _ λV bq h1 aZ aS p1=>?_)
 obtain⟨B,bM,bR,S1,y1⟩:=p1
 have I:iB (.list B.length (rv B))=true:=by
  have e':ae (@bN (λ_=>ag) Z.fail (k (.ref bM.n) ⟨bM.t.ins bM.n (.list B.length (rv B)),cX bM.n⟩) (iB (.list B.length (rv B))&&cJ ((bM.t.ins bM.n (.list B.length (rv B))).get bM.n))):=bR
  exact(aN.mp (iU (x:=Z.fail) Zk e').1).1
 have c4:=uv I
 refine⟨jk (by rw [y1.length];exact c4),?_⟩
 refine xA (p_ (M:=h1.push {cls:=.type "list",data:=.seq V.toArray}) Zk S1 bR (hV _) (fK _ _) λI st=>oK I (hZ _ rfl) (by rw [fD];exact(y1.step st).reverse) (by rw [fD,ez];exact fG _)) λbp pv=>?_
 exact q _ _ _ aZ (aS.trans bp) pv
theorem NT(h:tf E=true):attributeBase E x X t=t:=by
 cases E with
 |Call f args kw p=>
  cases f with
  |Name id q=>
   cases args with
   |nil=>exact bz h
   |cons=>rfl
  |_=>rfl
 |_=>rfl
theorem UC(Zk:bZ Z ae)(T:Top c w K W J mg mb)(bl:fm ae c w J n O.ev)(aq:Ctx c w J n Y F C s o cx fr X)(hb:tf E=true)(e:ae (KY Z W O E x cx fr o k)):bc c w Y [] C s (eval (.Attribute E x pos) X) (PV ae c w J F k):=by
 intro Q au q
 rw [arm_eval_Attribute,NT hb]
 refine aO (bl Y F C s o cx E fr X _ aq e _ _ λv1 bq h1 aZ aS p1=>?_)
 obtain⟨m1,bM,bR,S1,x1⟩:=p1
 refine ay (gW Zk bR) λm e1 de=>?_
 refine aO (ju (aO (iP (Wb (s:={s with heap:=h1,toks:=aZ}) (own:=[]) T S1 e1 (Py T x1) _ _ λv2 bf h2 bS bp p2=>?_))))
 refine cf p2 ?_;clear p2;intro x2 aI aE;obtain rfl:=aI.symm;obtain rfl:=aE.symm
 exact aO (wpAny_letTemporaryGo (bX (q _ _ _ bS (aS.trans bp) (.intro de S1 x2))))
theorem UO(Zk:bZ Z ae)(T:Top c w K W J mg mb)(bl:fm ae c w J n O.ev)(aq:Ctx c w J n Y F C s o cx fr X)(e:ae (K4 Z O E i cx fr o k)):bc c w Y [] C s (eval (.Subscript E i pos) X) (PV ae c w J F k):=by
 intro Q au q
 rw [Sw]
 refine aO (bl Y F C s o cx E fr X _ aq e _ _ λv1 bq h1 aZ aS p1=>?_)
 obtain⟨m1,bM,bR,S1,x1⟩:=p1
 refine aO (iP (bl Y F bq _ bM cx i fr X _ (aq.next aS S1 aZ) bR _ _ λv2 bf h2 bS bp p2=>?_))
 obtain⟨m2,dz,de,S2,x2⟩:=p2
 refine ay (gW Zk de) λm e1 dX=>?_
 refine aO (ju (aeg (value:=E) (slice:=i) (s:={s with heap:=h2,toks:=bS}) (own:=[]) T S2 e1 (x1.step bp) x2 _ _ λv3 dY h3 ey dp p3=>?_))
 refine cf p3 ?_;clear p3;intro x3 aI aE;obtain rfl:=aI.symm;obtain rfl:=aE.symm
 exact q _ _ _ ey (aS.trans (bp.trans dp)) (.intro dX S2 x3)
end
section
variable{ag:Type}{Z:cU ag}{ae:ag->Prop}{c:a_}{w:WB}{Y:bG}{own F F' C ao:G aA}{s:aT}{J h M:aP}{o br:MH}{K:b8}{W:bQ}{mg mb:ar->aa aw}{n:H}{cx:Cx}{fr:Fm}{X:cK}{O:Ops ag}
theorem GX(bl:fm ae c w J n O.ev)(aq:Ctx c w J n Y F C s o cx fr X)(e:ae (Ad O cx E fr o k)):bc c w Y [] C s (evalPart E X) (PV ae c w J F k):=by
 intro Q au q
 cases E with
 |none=>exact bX (q _ C s.heap s.toks (.refl ..) (.intro e aq.st (by rfl)))
 |some a=>exact bl Y F C s o cx a fr X _ aq e _ _ q
theorem Vf(Zk:bZ Z ae)(bl:fm ae c w J n O.ev)(aq:Ctx c w J n Y F C s o cx fr X){lo up st:aa aX}(e:ae (K8 Z O E lo up st cx fr o k)):bc c w Y [] C s (eval (.Subscript E (.Slice lo up st p) pos) X) (PV ae c w J F k):=by
 intro Q au q
 rw [Sw]
 refine aO (bl Y F C s o cx E fr X _ aq e _ _ λv1 bq h1 aZ aS p1=>?_)
 obtain⟨m1,bM,bR,S1,x1⟩:=p1
 have C1:=aq.next aS S1 aZ
 refine aO (iP (wpAny_Slice (GX bl C1 bR _ _ λv2 bf h2 bS bp p2=>?_)))
 obtain⟨m2,dz,de,S2,x2⟩:=p2
 have C2:=C1.next bp S2 bS
 refine GX bl C2 de _ _ λv3 dY h3 ey dp p3=>?_
 obtain⟨m3,hM,dX,S3,x3⟩:=p3
 have C3:=C2.next dp S3 ey
 refine GX bl C3 dX _ _ λv4 gC h4 jt fc p4=>?_
 obtain⟨m4,p7,jY,S4,x4⟩:=p4
 refine xA (S4.grow (fK h4 {cls:=.type "slice",data:=.fields #[v2,v3,v4]})) λkR S5=>?_
 refine aO (ju (adx (value:=E) (slice:=.Slice lo up st p) (own:=[]) (s:={s with heap:=h4.push {cls:=.type "slice",data:=.fields #[v2,v3,v4]},toks:=jt}) Zk S5 jY ((((x1.step bp).step dp).step fc).step kR) (((x2.step dp).step fc).step kR) ((x3.step fc).step kR) (x4.step kR) _ (Heap.IsSliceOf.new ..) _ _ λv6 af6 h6 aeP adN p6=>?_))
 exact q v6 af6 h6 aeP (aS.trans (bp.trans (dp.trans (fc.trans (kR.trans adN))))) p6
theorem J4(Zk:bZ Z ae)(e:ae (zM Z v k))(vx:VR c w F C h v x):∃b,x=.bool b/\v=.bool b/\ae (k b):=by
 cases v with
 |bool b=>exact⟨b,vx,rfl,e⟩
 |_=>exact(Zk.fail e).elim
set_option backward.match.sparseCases true in
theorem Th:boolOp pos op (x::y::r)=(do
  let v <-x
  tH pos
  let t <-xM [v] (truthy v)
  match op,t with
  |.And,false|.Or,true=>pure v
  |_,_=>boolOp pos op (y::r)):=rfl
noncomputable def GO(fI:ah):BoolOp:=match fI with
 |true=>.And
 |false=>.Or
theorem Tn(Zk:bZ Z ae)(bl:fm ae c w J n O.ev):∀(R:G aX) (a:aX) (C:G aA) (s:aT) (o:MH) (k:D->MH->ag),Ctx c w J n Y F C s o cx fr X->ae (Dy Z O fI cx R a fr o k)->
  bc c w Y [] C s (boolOp pos (GO fI) (eval a X::evalEach R X)) (PV ae c w J F k):=by
 intro gu
 induction gu with
 |nil=>
  intro a C s o k aq e
  exact bl Y F C s o cx a fr X _ aq e
 |cons b R fQ=>
  intro a C s o k aq e
  intro Q au q
  rw [arm_evalEach_cons,Th]
  refine aO (bl Y F C s o cx a fr X _ aq (show ae (O.ev cx a fr o λv o=>zM Z v λI=>@bN (λ_=>ag) (Dy Z O fI cx R b fr o k) (k v o) (qt fI I)) from e) _ _ λv1 bq h1 aZ aS p1=>?_)
  obtain⟨m1,bM,bR,S1,x1⟩:=p1
  refine fM (J4 Zk bR x1) λI aI aE bR=>?_;subst aI;skip
  refine aO (ju (aO (iP (II ?_))))
  have C1:=aq.next aS S1 aZ
  cases fI<;>cases I
  .exact fQ b bq _ bM k C1 bR _ _ λv2 bf h2 bS bp p2=>q v2 bf h2 bS (aS.trans bp) p2
  .exact bX (q _ bq h1 aZ aS (.intro bR S1 x1))
  .exact bX (q _ bq h1 aZ aS (.intro bR S1 x1))
  .exact fQ b bq _ bM k C1 bR _ _ λv2 bf h2 bS bp p2=>q v2 bf h2 bS (aS.trans bp) p2
theorem Pk(fF:mW ae c w J n O.fh):∀(R:G aX) (C:G aA) (s:aT) (o:MH) (k:ah->MH->ag),Ctx c w J n Y F C s o cx fr X->ae (v8 O fI cx R fr o k)->
  bc c w Y [] C s (allTrue (GO fI) R X) (PB ae c w J F k):=by
 intro gu
 induction gu with
 |nil=>
  intro C s o k aq e
  intro Q au q
  cases fI
  .exact wpAny_allTrue_Or_nil (q _ C s.heap s.toks (.refl ..) ⟨o,e,aq.st⟩)
  .exact wpAny_allTrue_And_nil (q _ C s.heap s.toks (.refl ..) ⟨o,e,aq.st⟩)
 |cons b R fQ=>
  intro C s o k aq e
  intro Q au q
  have e':ae (O.fh cx b fr o λI o=>@bN (λ_=>ag) (v8 O fI cx R fr o k) (k I o) (qt fI I)):=e
  cases fI
  .refine wpAny_allTrue_Or_cons (fF Y F C s o cx b fr X _ aq e' _ _ λI bq h1 aZ aS p1=>?_)
   obtain⟨bM,bR,S1⟩:=p1
   have C1:=aq.next aS S1 aZ
   cases I
   .rw [bk fY]
    exact fQ bq _ bM k C1 bR _ _ λv2 bf h2 bS bp p2=>q v2 bf h2 bS (aS.trans bp) p2
   .rw [bT rfl]
    exact q _ bq h1 aZ aS ⟨bM,bR,S1⟩
  .refine wpAny_allTrue_And_cons (fF Y F C s o cx b fr X _ aq e' _ _ λI bq h1 aZ aS p1=>?_)
   obtain⟨bM,bR,S1⟩:=p1
   have C1:=aq.next aS S1 aZ
   cases I
   .rw [bk fY]
    exact q _ bq h1 aZ aS ⟨bM,bR,S1⟩
   .rw [bT rfl]
    exact fQ bq _ bM k C1 bR _ _ λv2 bf h2 bS bp p2=>q v2 bf h2 bS (aS.trans bp) p2
noncomputable def R9(e:aX):VB->Prop
 |.plain=>∀X PR,isTrue e X PR=(do let v <-PR;tH e.pos;xM [v] (truthy v))
 |.not a=>∃p,e=.UnaryOp .Not a p
 |.nc true R=>∃p,e=.BoolOp .And R p
 |.nc false R=>∃p,e=.BoolOp .Or R p
 |.cmp a op b=>∃p,e=.Compare a [op] [b] p/\Dm op b=false
 |.bad=>jz
theorem afc(e:aX):R9 e (Iv e):=by
 cases e with
 |BoolOp op V p=>cases op<;>exact⟨p,rfl⟩
 |UnaryOp op b p=>cases op<;>first|exact⟨p,rfl⟩|trivial
 |Compare a ops bs p=>
  cases ops with
  |nil=>trivial
  |cons op r=>cases r with
   |cons=>trivial
   |nil=>cases bs with
    |nil=>trivial
    |cons b r=>cases r with
     |cons=>trivial
     |nil=>cases b<;>first|exact⟨p,rfl,rfl⟩|trivial
 |IfExp=>trivial
 |_=>exact λ_ _=>rfl
theorem aeT(Zk:bZ Z ae)(T:Top c w K W J mg mb)(bl:fm ae c w J n O.ev)(fF:mW ae c w J n O.fh)(aq:Ctx c w J n Y F C s o cx fr X)(hh:ae (Ig Z W O cx e fr o k)):
  bc c w Y [] C s (isTrue e X (eval e X)) (PB ae c w J F k):=by
 unfold Ig at hh
 have cP:=afc e
 generalize Iv e=v at hh cP
 cases v with
 |plain=>
  intro Q au q
  refine wpAny_isTrue_value ?_ (cP X _)
  refine bl Y F C s o cx e fr X _ aq hh _ _ λv1 bq h1 aZ aS p1=>?_
  obtain⟨m1,bM,bR,S1,x1⟩:=p1
  refine fM (J4 Zk bR x1) λI aI aE bR=>?_;subst aI;skip
  exact II (q I bq h1 aZ aS ⟨bM,bR,S1⟩)
 |bad=>exact(Zk.fail hh).elim
 |not a=>
  refine bw cP ?_;clear cP;intro p aI;rw [aI]
  exact λQ au q=>wpAny_isTrue_Not (fF Y F C s o cx _ fr X _ aq hh _ _ λI bq h1 aZ aS p1=>q _ bq h1 aZ aS (by obtain⟨a,b,d⟩:=p1;exact⟨a,b,d⟩))
 |nc fI R=>
  cases fI with
  |true=>obtain⟨p,rfl⟩:=cP;exact λQ au q=>afw (Pk (fI:=true) fF _ C s o k aq hh _ _ q)
  |false=>obtain⟨p,rfl⟩:=cP;exact λQ au q=>afw (Pk (fI:=false) fF _ C s o k aq hh _ _ q)
 |cmp a op b=>
  refine ay cP ?_;clear cP;intro p aI hm;rw [aI]
  intro Q au q
  refine wpAny_isTrue_Compare1 (bl Y F C s o cx _ fr X _ aq hh _ _ λv1 bq h1 aZ aS p1=>?_) hm
  obtain⟨m1,bM,bR,S1,x1⟩:=p1
  refine bl Y F bq _ bM cx _ fr X _ (aq.next aS S1 aZ) bR _ _ λv2 bf h2 bS bp p2=>?_
  obtain⟨m2,dz,de,S2,x2⟩:=p2
  refine ay (gW Zk de) λr e3 dX=>?_
  refine Kw (s:={s with heap:=h2,toks:=bS}) (own:=[]) T S2 aq.units e3 (x1.step bp) x2 _ _ λv3 dY h3 ey dp p3=>?_
  refine cf p3 ?_;clear p3;intro eJ aI aE;subst eJ;obtain rfl:=aI.symm;obtain rfl:=aE.symm
  exact II (q _ _ _ ey (aS.trans (bp.trans dp)) ⟨dz,dX,S2⟩)
end
section
variable{ag:Type}{Z:cU ag}{ae:ag->Prop}{c:a_}{w:WB}{Y:bG}{own F F' C ao:G aA}{s:aT}{J h M:aP}{o br:MH}{K:b8}{W:bQ}{mg mb:ar->aa aw}{n:H}{cx:Cx}{fr:Fm}{X:cK}{O:Ops ag}
theorem cH.enter(f:jx J h M C new)(az:cH c w F C h cx fr X):cH c w (new++F) C M cx fr X:=
 az.gen (λ_ _=>f.keep _) (λb hb=>fC _ (az.lP b hb)) λ_ _ v=>v.enter f
theorem Ctx.enter(aq:Ctx c w J n Y F C s o cx fr X)(f:jx J s.heap M C new)(tk:H):Ctx c w J n Y (new++F) C {s with heap:=M,toks:=tk} o cx fr X:=
 ⟨aq.room,aq.st.enter f,aq.fr.enter f⟩
theorem bh.close(st:bh new C h ao M)(hn:∀b∈new,h.get? b=none)(hd:h.get? d=none):bh own C h (ao++[d]) M:=by
 have st:=st.more (jq:=own) λb hb=>.inr (hn b hb)
 exact⟨st.pre.trans (wF ..),st.keep,λb E e n=>⟨(st.out b E e n).1,λq=>by
  refine dC (dI.mp q) (λq=>?_) λq=>?_
  .exact(st.out b E e n).2 q
  .rw [cA.mp q,hd] at e;exact aB e⟩⟩
theorem Sm(e:wR B=true):B.all (·.isSome)=true:=by
 induction B with
 |nil=>rfl
 |cons a B O=>
  refine xA (aN.mp (e:(cJ a&&wR B)=true)) λe1 e2=>?_
  rw [Qz,O e2]
  cases a with
  |none=>exact bz e1
  |some _=>rfl
theorem abq(Zk:bZ Z ae)(bl:fm ae c w J n O.ev):∀(ks:G (aa aX)) (V:G aX) (C:G aA) (s:aT) (o:MH) (k:G D->G D->MH->ag),Ctx c w J n Y F C s o cx fr X->ae (Eh Z O cx ks V fr o k)->
  bc c w Y [] C s (evalPairs (pairTrees ks V X pos)) (λps ao M=>∃a b br,ae (k a b br)/\St c w J F ao br M/\aW c w F ao M a (ps.map (·.1))/\aW c w F ao M b (ps.map (·.2))):=by
 intro ks
 induction ks with
 |nil=>
  intro V C s o k aq e
  cases V with
  |nil=>exact λQ au q=>bX (q [] C s.heap s.toks (.refl ..) ⟨[],[],o,e,aq.st,.nil,.nil⟩)
  |cons=>exact(Zk.fail e).elim
 |cons a ks fQ=>
  intro V C s o k aq e
  cases V with
  |nil=>exact(Zk.fail e).elim
  |cons v V=>
  cases a with
  |none=>exact(Zk.fail e).elim
  |some a=>
  intro Q au q
  have e':ae (O.ev cx a fr o λkv o=>O.ev cx v fr o λvv o=>Eh Z O cx ks V fr o λa b o=>k (kv::a) (vv::b) o):=e
  show bo _ _ (do
   let kv <-eval a X
   let vv <-xM [kv] (do let x <-eval v X;tH pos;pure x)
   return (kv,vv)::(<-xM [kv,vv] (evalPairs (pairTrees ks V X pos)))) _ _ _
  refine aO (bl Y F C s o cx a fr X _ aq e' _ _ λv1 bq h1 aZ aS p1=>?_)
  refine PV.el p1 λm1 bM bR S1 x1=>?_
  have C1:=aq.next aS S1 aZ
  refine aO (iP (aO (bl Y F bq _ bM cx v fr X _ C1 bR _ _ λv2 bf h2 bS bp p2=>aO (ju (bX ?_)))))
  refine PV.el p2 λm2 dz de S2 x2=>?_
  have C2:=C1.next bp S2 bS
  refine aO (iP (fQ V bf _ dz _ C2 de _ _ λps dY h3 ey dp p3=>bX ?_))
  refine dO p3 λla lb hM dX bB=>cf bB λS3 y1 y2=>?_
  exact q _ dY h3 ey (aS.trans (bp.trans dp)) ⟨m1::la,m2::lb,hM,dX,S3,.cons ((x1.step bp).step dp) y1,.cons (x2.step dp) y2⟩
theorem KP(e:uC (k::ks) V R=some dD):∃v r jV,V=v::r/\dput R k v=some jV/\uC ks r jV=some dD:=by
 cases V with
 |nil=>exact aB e
 |cons v r=>
  have e':(match dput R k v with|some R=>uC ks r R|.none=>.none)=some dD:=e
  generalize q:dput R k v=ax at e'
  cases ax with
  |none=>exact aB e'
  |some jV=>exact⟨v,r,jV,rfl,q,e'⟩
theorem T9:∀{ks V:G D} {R dD:G (D×D)},uC ks V R=some dD->R.length<=dD.length:=by
 intro gu
 induction gu with
 |nil=>
  intro V R dD e
  cases V with
  |nil=>cases e;exact fG _
  |cons _ _=>exact aB e
 |cons k ks fQ=>
  intro V R dD e
  refine dO (KP e) λv r jV bU bB=>xA bB λe1 e2=>?_;skip
  exact dQ (z9 e1).1 (fQ e2)
theorem ad4(l4:dD.length<=4096):∀(ks V:G D) (ps:G (aw×aw)) (R:G (D×D)) (s:aT),uC ks V R=some dD->aW c w F C hv ks (ps.map (·.1))->aW c w F C hv V (ps.map (·.2))->DR c w F C hv s.heap d R->
  (∀M tk,DR c w F C hv M d dD->iC d s.heap M->(∃E,M.get? d=some E)->Q ⟨⟩ {s with heap:=M,toks:=tk})->bo (bK c w.w) Y (JN d ps) Q au s:=by
 intro gu
 induction gu with
 |nil=>
  intro V ps R s e y1 y2 dr q
  cases V with
  |cons _ _=>exact aB e
  |nil=>
   cases e
   have:ps=[]:=Cw.mp y1.dW
   rw [this]
   unfold JN
   rw [wz]
   have hx:∃E,s.heap.get? d=some E:=by
    obtain⟨aR,d,_⟩|⟨aR,d,_⟩:=dr<;>exact qJ d
   exact bX (q s.heap s.toks dr (.refl ..) hx)
 |cons k ks fQ=>
  intro V ps R s e y1 y2 dr q
  refine dO (KP e) λv r jV bU bB=>xA bB λe1 e2=>?_;subst bU
  cases ps with
  |nil=>obtain⟨_,_,z,_⟩:=y1.cj;cases z
  |cons p ps=>
   refine dR.el y1.cj λkv r1 z1 a1 a2=>?_
   refine dR.el y2.cj λvv r2 z2 b1 b2=>?_
   cases z1
   cases z2
   unfold JN
   rw [o_]
   refine aO (aO (DR.set s dr e1 (dQ (dQ (z9 e1).1 (T9 e2)) l4) a1 b1 λh1 xj AG=>bX ?_))
   have hx:∃E,s.heap.get? d=some E:=by
    obtain⟨aR,d,_⟩|⟨aR,d,_⟩:=dr<;>exact qJ d
   exact fQ r ps jV {s with heap:=h1,toks:=s.toks+1} e2 a2 b2 xj λh2 bS xk oE hy=>q h2 bS xk (AG.trans oE) hy
theorem UK(Zk:bZ Z ae)(bl:fm ae c w J n O.ev)(aq:Ctx c w J n Y F C s o cx fr X)(I:(dB ks.length 16&&wR ks&&bA ks.length V.length)=true)(e:ae (K2 Z O ks V cx fr o k)):
  bc c w Y [] C s (eval (.Dict ks V pos) X) (PV ae c w J F k):=by
 refine xA (aN.mp I) λI c3=>?_
 refine xA (aN.mp I) λc1 c2=>?_
 have c1:ks.length<16:=dw c1
 have c3:=dU c3
 intro Q au q
 have D0:=hV s.heap
 cases ks with
 |nil=>
  have:V=[]:=wA.mp c3.symm
  subst this
  have e':ae (iV Z o (.dict []) k):=e
  show bo (bK c w.w) Y (do tH pos;newDict) Q au s
  refine aO (ju ?_)
  unfold newDict
  refine PU ?_
  refine xA (p_ (M:=s.heap.push {cls:=.type "dict",data:=.dict #[]}) Zk aq.st e' (hV _) (fK _ _) λI st=>(DR.new (hv:=s.heap)).or st (gD _)) λst pv=>?_
  exact q _ _ _ s.toks st pv
 |cons k0 ks=>
  refine wpAny_Dict_any (Sm c2) c3 (λz=>nomatch z) (by lia) ?_
  have f:jx J s.heap (s.heap.push {cls:=.type "dict",data:=.dict #[]}) C [s.heap.objs.size]:=⟨fK _ _,λb hb=>by rw [cA.mp hb];exact⟨D0,_,hZ _ rfl⟩⟩
  have C1:=aq.enter f s.toks
  refine cf (aq.st.lO D0) λd1 d2 d3=>?_
  have age:DR c w ([s.heap.objs.size]++F) C s.heap (s.heap.push {cls:=.type "dict",data:=.dict #[]}) s.heap.objs.size []:=.new
  refine abq Zk bl (k0::ks) V C _ o _ C1 e _ _ λps bq h1 aZ aS p1=>?_
  refine dO p1 λla lb bM bR bB=>cf bB λS1 y1 y2=>?_
  refine ay (gW Zk bR) λR e1 de=>?_
  have c4:R.length<=4096:=by
   have e':ae (@bN (λ_=>ag) Z.fail (k (.ref bM.n) ⟨bM.t.ins bM.n (.dict R),cX bM.n⟩) (iB (.dict R)&&cJ ((bM.t.ins bM.n (.dict R)).get bM.n))):=de
   exact j4 (aN.mp (iU (x:=Z.fail) Zk e').1).1
  have gd:∀E,(s.heap.push {cls:=.type "dict",data:=.dict #[]}).get? s.heap.objs.size=some E->h1.get? s.heap.objs.size=some E:=λE e=>aS.keep _ E e d1 λz=>nomatch z
  have xj:DR c w ([s.heap.objs.size]++F) bq h1 h1 s.heap.objs.size []:=.inl ⟨[],sg (Cm s.heap) gd,.nil,λp z=>nomatch z⟩
  refine ad4 c4 la lb ps [] {s with heap:=h1,toks:=aZ} e1 y1 y2 xj λh2 bS xk oE hy=>?_
  refine xA (S1.turn (.head _) oE hy) λbp S2=>?_
  have hF:∀b∈[s.heap.objs.size],b∈[s.heap.objs.size]++F:=λb hb=>iR _ hb
  have tr:∀m v,VR c w ([s.heap.objs.size]++F) bq h1 m v->VR c w F (bq++[s.heap.objs.size]) h2 m v:=λm v x=>(x.fx hF bp).mono zG (.inr wQ)
  have pv:=Gq (a:=s.heap.objs.size) Zk S2 d2 de λI=>⟨by
   obtain⟨aR,d,u,sk⟩|⟨aR,d,u⟩:=xk
   .exact .inl ⟨aR,d,u.imp tr,sk⟩
   .exact .inr ⟨aR,d,u.imp tr⟩,c4⟩
  refine q _ _ h2 bS ?_ pv
  exact bh.close (new:=[s.heap.objs.size]) (((bh.of_keeps f.keep).trans aS.any).trans bp) (λb hb=>(f.new b hb).1) D0
end
section
variable{ag:Type}{Z:cU ag}{ae:ag->Prop}{c:a_}{w:WB}{Y:bG}{own F F' C ao:G aA}{s:aT}{J h M:aP}{o br:MH}{K:b8}{W:bQ}{mg mb:ar->aa aw}{n:H}{cx:Cx}{fr:Fm}{X:cK}{O:Ops ag}
theorem FC(T:Top c w K W J mg mb)(I:r9 W m=true)(x:VR c w F C h m v)(h1:aP)(pW:K.In h1):∃k,(k=Jd\/k=Je\/k=Jc)/\Looks (bK c w.w) h1 (keeperOf v) k:=by
 cases m with
 |fn a=>
  subst x
  exact keeps_K (T.call a I) h1 pW
 |bi b=>
  subst x
  exact⟨.machine,.inr (.inl rfl),by cases b<;>exact .now⟩
 |_=>exact bz I
theorem yh:∀{R:G aX} {X:cK} {pos:Pos},gG R=true->(uu pos (rt R X)).any (·.1)=false:=by
 intro gu
 induction gu with
 |nil=>
  intro _ _ _
  exact rfl
 |cons e R fQ=>
  intro X pos h
  refine xA (s_ h) λh1 h2=>?_
  rw [h2 X]
  exact fQ (pos:=pos) h1
theorem DD(T:Top c w K W J mg mb)(bl:fm ae c w J n O.ev)(aq:Ctx c w J n Y F C s o cx fr X)(hk:∀h1,K.In h1->∃k,(k=Jd\/k=Je\/k=Jc)/\Looks (bK c w.w) h1 (keeperOf f) k)(ns:gG R=true)
  (e:ae (sy O cx R fr o k)) (r:∀B V bq h1 aZ bM,bh [] C s.heap bq h1->St c w J F bq bM h1->aW c w F bq h1 B V->ae (k B bM)->bc c w Y [] bq {s with heap:=h1,toks:=aZ} (call f (first++V)) P):
  bc c w Y [] C s (callWith pos f first (uu pos (rt R X)) []) P:=by
 intro Q au q
 refine DC (P:=λh=>K.In h) (by rw [yh ns];rfl) hk ?_
 cases R with
 |nil=>
  refine evalArgs_nil3 ⟨(T.ns aq.st).2.2.1,?_⟩
  exact r [] [] C s.heap s.toks o (.refl ..) aq.st .nil e _ _ q
 |cons a R=>
  refine xA (s_ ns) λ_ h2=>?_
  have key:=Ej (pos:=pos) bl (a::R) C s o k aq ns e
  rw [h2 X] at key⊢
  refine Lp (key _ _ λV bq h1 aZ aS p1=>?_)
  obtain⟨B,bM,bR,S1,y1⟩:=p1
  exact⟨(T.ns (s:={s with heap:=h1,toks:=aZ}) S1).2.2.1,r B V bq h1 aZ bM aS S1 y1 bR _ _ λv bf h2 bS bp p2=>q v bf h2 bS (aS.trans bp) p2⟩
theorem UG(Zk:bZ Z ae)(T:Top c w K W J mg mb)(bl:fm ae c w J n O.ev)(fF:qu ae c w J n O.call)(aq:Ctx c w J n Y F C s o cx fr X)(ns:gG R=true)(e:ae (K0 Z W O (.Name x p) R cx fr o k)):
  bc c w Y [] C s (eval (.Call (.Name x p) R [] pos) X) (PV ae c w J F k):=by
 intro Q au q
 rw [Dh]
 refine aO (bl Y F C s o cx _ fr X _ aq e _ _ λv1 bq h1 aZ aS p1=>?_)
 obtain⟨m1,bM,bR,S1,x1⟩:=p1
 refine xA (iU (x:=Z.fail) Zk bR) λI bR=>?_
 have C1:=aq.next aS S1 aZ
 exact DD T bl C1 (FC T I x1) ns bR (λB V bf h2 bS dz bp S2 y2 de=>fF Y F bf _ dz m1 v1 B V k aq.room S2 (x1.step bp) y2 de) _ _ λv2 bf h2 bS bp p2=>q v2 bf h2 bS (aS.trans bp) p2
theorem UQ(Zk:bZ Z ae)(T:Top c w K W J mg mb)(bl:fm ae c w J n O.ev)(fF:qu ae c w J n O.call)(aq:Ctx c w J n Y F C s o cx fr X)(ns:gG R=true)(I:(tf E&&bA zK.endLine pos.line&&dB R.length 29)=true)(e:ae (K6 Z W O E x R cx fr o k)):
  bc c w Y [] C s (eval (.Call (.Attribute E x zK) R [] pos) X) (PV ae c w J F k):=by
 refine xA (aN.mp I) λI c3=>?_
 refine xA (aN.mp I) λc1 c2=>?_
 have c2:(zK.endLine==pos.line)=true:=by rw [qG];exact dU c2
 have c3:R.length<29:=dw c3
 have VY:methodCallForm (R.length+([]:G Keyword).length) (uu pos (rt R X)) (backToKw pos (MR [] X))=true:=by
  unfold methodCallForm
  have:(uu pos (rt R X)).all (λt=>!t.1)=true:=by
   have:=yh (X:=X) (pos:=pos) ns
   rw [zc] at this
   rw [l9]
   intro t ht
   have:=this t ht
   cases z:t.1 with
   |true=>exact bP z this
   |false=>rfl
  rw [this]
  have:(backToKw pos (MR [] X))=[]:=rfl
  rw [this]
  simp only [List.all_nil,Bool.true_and,rM,CG,List.isEmpty_nil,if_true,KN]
  exact dQ (by assumption) (by decide)
 intro Q au q
 rw [arm_eval_Call,NT c1]
 refine aO (bl Y F C s o cx E fr X _ aq e _ _ λv1 bq h1 aZ aS p1=>aO (ju ?_))
 obtain⟨m1,bM,bR,S1,x1⟩:=p1
 have C1:=aq.next aS S1 aZ
 unfold methodCall
 rw [VY]
 have q':∀(a:aw) (ao:G aA) (M:aP) (tk:H),bh [] bq h1 ao M->PV ae c w J F k a ao M->Q a {s with heap:=M,toks:=tk}:=λv2 bf h2 bS bp p2=>q v2 bf h2 bS (aS.trans bp) p2
 have Xf:∀E,Nr true E X zK pos=pure pos:=λE=>by unfold Nr;rw [c2];rfl
 have pL:∀{g:aw} {first:G aw},bo (bK c w.w) Y (callWith pos g first (uu pos (rt R X)) []) Q au {s with heap:=h1,toks:=aZ}->
   bo (bK c w.w) Y (do let Tw <-Nr true E X zK pos;callWith Tw g first (uu pos (rt R X)) (backToKw pos (MR [] X))) Q au {s with heap:=h1,toks:=aZ}:=λz=>by
  rw [Xf]
  exact aO (bX z)
 unfold Nq at bR
 generalize hm:A7 bM W (yO W m1) x=ax at bR
 cases ax with
 |some g=>
  refine xA (iU (x:=Z.fail) Zk bR) λcc bR=>?_
  obtain⟨a,rfl,gm⟩:=ZY (Y:=Y) (s:={s with heap:=h1,toks:=aZ}) T S1 hm (Py T x1)
  refine aO (iP (gm _ _ (pL ?_)))
  have xg:∀ao M,VR c w F ao M (.fn g) (.ref g):=λao M=>by rfl
  exact DD T bl C1 (FC T cc (xg bq h1)) ns bR (λB V bf h2 bS dz bp S2 y2 de=>fF Y F bf _ dz (.fn g) (.ref g) (m1::B) (.ref a::V) k aq.room S2 (xg bf h2) (.cons (x1.step bp) y2) de) _ _ q'
 |none=>
  refine ay (gW Zk bR) λm e2 de=>?_
  refine aO (iP (acx (s:={s with heap:=h1,toks:=aZ}) S1 e2 x1 _ _ (pL ?_)))
  have xg:∀h1,K.In h1->∃k,(k=Jd\/k=Je\/k=Jc)/\Looks (bK c w.w) h1 (keeperOf (.builtin m.id)) k:=λh1 _=>⟨.machine,.inr (.inl rfl),.now⟩
  exact DD T bl C1 xg ns de (λB V bf h2 bS dz bp S2 y2 de=>ZX (s:={s with heap:=h2,toks:=bS}) (own:=[]) Zk T S2 de (x1.step bp) y2) _ _ q'
theorem Yn:vO=rX "key" :=by decide+kernel
theorem Vg(Zk:bZ Z ae)(T:Top c w K W J mg mb)(bl:fm ae c w J n O.ev)(fF:qu ae c w J n O.call)(aq:Ctx c w J (n+1) Y F C s o cx fr X)(ns:gG [a]=true)(e:ae (K9 Z W O (.Name x p) a kf cx fr o k)):
  bc c w Y [] C s (eval (.Call (.Name x p) [a] [⟨some vO,kf,kp⟩] pos) X) (PV ae c w J F k):=by
 intro Q au q
 rw [Dh]
 refine aO (bl Y F C s o cx _ fr X _ aq.lower e _ _ λv1 bq h1 aZ aS p1=>?_)
 obtain⟨m1,bM,bR,S1,x1⟩:=p1
 have C1:=aq.lower.next aS S1 aZ
 refine xA (s_ ns) λ_ h2=>?_
 refine xA (iU (x:=Z.fail) Zk bR) λcc bR=>?_
 refine DC (P:=λh=>K.In h) (by rw [yh ns];rfl) (FC T cc x1) (evalArgs_kw2 (by rfl) ?_ (h2 X))
 refine wpAny_items_cons ?_ (h2 X)
 refine bl Y F bq _ bM cx a fr X _ C1 bR _ _ λv2 bf h2 bS bp p2=>?_
 obtain⟨m2,dz,de,S2,x2⟩:=p2
 have C2:=C1.next bp S2 bS
 refine wpAny_items_nil ?_
 show bo (bK c w.w) Y (evalAll [do let v <-eval kf X;tH pos;pure v]) _ _ _
 refine wpAny_evalAll_cons (aO (bl Y F bf _ dz cx kf fr X _ C2 de _ _ λv3 dY h3 ey dp p3=>?_))
 obtain⟨m3,hM,dX,S3,x3⟩:=p3
 refine aO (ju (bX (wpAny_evalAll_nil ⟨(T.ns (s:={s with heap:=h3,toks:=ey}) S3).2.2.1,?_⟩)))
 cases m1 with
 |bi b=>
  cases b with
  |sorted=>
   subst x1
   refine(?_:bo (bK c w.w) Y (call (.builtin "sorted") [v2] [(vO,v3)]) _ _ _)
   rw [Yn]
   exact adE (own:=[]) (s:={s with heap:=h3,toks:=ey}) Zk fF aq.room S3 dX (x2.step dp) x3 _ _ λv4 gC h4 jt fc p4=>q v4 gC h4 jt (aS.trans (bp.trans (dp.trans fc))) p4
  |_=>exact(Zk.fail dX).elim
 |_=>exact(Zk.fail dX).elim
end
inductive wM(c:a_)(w:WB)(F C:G aA)(h:aP)(B:G D)(it:aA):Prop
 |mk (t:aA) (V:dS aw) (n j:H):cM F C t->h.get? t=some (kX V n)->h.IsTupleIter it t j->aW c w F C h B (V.toList.drop j)->wM c w F C h B it
theorem wM.el{az:Prop}(z:wM c w F C h B it)(k:∀t V n j,cM F C t->h.get? t=some (kX V n)->h.IsTupleIter it t j->aW c w F C h B (V.toList.drop j)->az):az:=z.casesOn k
inductive wK(c:a_)(w:WB)(F C:G aA)(h:aP)(B:G D)(it:aA):Prop
 |mk (t:aA) (V:dS aw) (n j:H):cM F C t->h.get? t=some (fT V n)->h.IsListIter it t j->aW c w F C h B (V.toList.drop j)->wK c w F C h B it
theorem wK.el{az:Prop}(z:wK c w F C h B it)(k:∀t V n j,cM F C t->h.get? t=some (fT V n)->h.IsListIter it t j->aW c w F C h B (V.toList.drop j)->az):az:=z.casesOn k
noncomputable def SI(c:a_)(w:WB)(F C:G aA)(h:aP):It->aA->Prop
 |.lst i k,it=>∃a,C[i]?=some a/\h.IsListIter it a k
 |.tup B,it=>wM c w F C h B it
 |.bz B,it=>wK c w F C h B it
 |_,_=>dP
inductive JT(c:a_)(w:WB)(F C:G aA)(h:aP)(a b:It)(v:aw)(own:G aA):Prop
 |mk (z TI TO i1 i2:aA) (x y:aw):v=.ref z->own=[z,TI,TO,i1,i2]->own.Nodup->tY h z TI TO .none->wu h TI (.ref i1) (.ref i2)->wu h TO x y->SI c w F C h a i1->SI c w F C h b i2->JT c w F C h a b v own
noncomputable def fO(c:a_)(w:WB)(F C:G aA)(h:aP):It->aw->G aA->Prop
 |.range k n,v,own=>∃i left,v=.ref i/\own=[i]/\IsRangeIter h i k left 1/\(left=n-k\/left<=0/\n-k<=0)
 |.zip a b,v,own=>JT c w F C h a b v own
 |it,v,own=>∃i,v=.ref i/\own=[i]/\SI c w F C h it i
noncomputable def Ib(it:It)(t:aX):Prop:=match it with
 |.zip _ _=>∃R k p,t=.Tuple R k p
 |_=>jz
section
variable{ag:Type}{Z:cU ag}{ae:ag->Prop}{c:a_}{w:WB}{Y:bG}{own F F' C ao:G aA}{s:aT}{J h M:aP}{o br:MH}{K:b8}{W:bQ}{mg mb:ar->aa aw}{n:H}{cx:Cx}{fr:Fm}{X:cK}{O:Ops ag}
theorem SI.step(hF:∀b∈own,b∈F)(st:bh own C h ao M)(hi:∀E,h.get? i=some E->M.get? i=some E)(x:SI c w F C h it i):SI c w F ao M it i:=by
 cases it with
 |lst j k=>
  refine ay x λa e g=>?_
  exact⟨a,st.pl _ _ e,g.at hi⟩
 |tup B=>
  obtain⟨t,V,n,j,sf,g,q,y⟩:=x
  exact⟨t,V,n,j,sf.step st g,st.at hF sf _ g,(let⟨E,ho,r⟩:=q;⟨E,hi E ho,r⟩),y.fx hF st⟩
 |bz B=>
  obtain⟨t,V,n,j,sf,g,q,y⟩:=x
  exact⟨t,V,n,j,sf.step st g,st.at hF sf _ g,q.at hi,y.fx hF st⟩
 |_=>exact x
theorem SI.there(x:SI c w F C h it i):∃E,h.get? i=some E:=by
 cases it with
 |lst j k=>obtain⟨a,e,E,ho,_⟩:=x;exact⟨E,ho⟩
 |tup B=>obtain⟨t,V,n,j,sf,g,⟨E,ho,_⟩,y⟩:=x;exact⟨E,ho⟩
 |bz B=>obtain⟨t,V,n,j,sf,g,⟨E,ho,_⟩,y⟩:=x;exact⟨E,ho⟩
 |_=>exact x.elim
theorem fO.there(x:fO c w F C h it v own):∀b∈own,∃E,h.get? b=some E:=by
 have si:∀{it:It},(∃i,v=.ref i/\own=[i]/\SI c w F C h it i)->∀b∈own,∃E,h.get? b=some E:=by
  rintro it ⟨i,rfl,rfl,sx⟩ b hb
  rw [cA.mp hb];exact SI.there sx
 cases it with
 |range k n=>
  refine eK x ?_;clear x;intro i left aE bU g _;skip;rw [bU]
  intro b hb
  rw [cA.mp hb];exact⟨_,g⟩
 |zip a b=>
  obtain⟨z,TI,TO,i1,i2,x,y,rfl,rfl,nd,g1,g2,g3,s1,s2⟩:=x
  intro b hb
  simp only [bY,eP,gH] at hb
  rcases hb with rfl|rfl|rfl|rfl|rfl
  .exact⟨_,g1⟩
  .exact⟨_,g2⟩
  .exact⟨_,g3⟩
  .exact s1.there
  .exact s2.there
 |lst i k=>exact si x
 |tup B=>exact si x
 |bz B=>exact si x
theorem fO.step(hF:∀b∈jq,b∈F)(st:bh jq C h ao M)(x:fO c w F C h it v own)(hk:∀b∈own,∀E,h.get? b=some E->M.get? b=some E):fO c w F ao M it v own:=by
 have si:∀{it:It},(∃i,v=.ref i/\own=[i]/\SI c w F C h it i)->∃i,v=.ref i/\own=[i]/\SI c w F ao M it i:=by
  rintro it ⟨i,rfl,rfl,sx⟩
  exact⟨i,rfl,rfl,SI.step hF st (hk i (.head _)) sx⟩
 cases it with
 |range k n=>
  refine eK x ?_;clear x;intro i left aE bU g hl;rw [aE];subst bU
  exact⟨i,left,rfl,rfl,hk i (.head _) _ g,hl⟩
 |zip a b=>
  obtain⟨z,TI,TO,i1,i2,x,y,rfl,rfl,nd,g1,g2,g3,s1,s2⟩:=x
  refine⟨z,TI,TO,i1,i2,x,y,rfl,rfl,nd,hk _ (by simp) _ g1,hk _ (by simp) _ g2,hk _ (by simp) _ g3,s1.step hF st (hk _ (by simp)),s2.step hF st (hk _ (by simp))⟩
 |lst i k=>exact si x
 |tup B=>exact si x
 |bz B=>exact si x
theorem SI.enter(f:jx J h M C new)(x:SI c w F C h it i):SI c w (new++F) C M it i:=by
 cases it with
 |lst j k=>
  refine ay x λa e g=>?_
  exact⟨a,e,g.at λE e=>f.keep _ E e⟩
 |tup B=>
  obtain⟨t,V,n,j,sf,g,q,y⟩:=x
  refine xA (pH f _ _ g sf) λg' j8=>?_
  exact⟨t,V,n,j,j8,g',(let⟨E,ho,r⟩:=q;⟨E,f.keep _ E ho,r⟩),y.enter f⟩
 |bz B=>
  obtain⟨t,V,n,j,sf,g,q,y⟩:=x
  refine xA (pH f _ _ g sf) λg' j8=>?_
  exact⟨t,V,n,j,j8,g',q.at λE e=>f.keep _ E e,y.enter f⟩
 |_=>exact x
theorem drop_cons{α:Type}{B:G α}{v:α}{r:G α}(e:B.drop j=v::r):B[j]?=some v/\B.drop (j+1)=r:=by
 constructor
 .have:(B.drop j)[0]?=some v:=by rw [e];rfl
  rwa [Cs,CG] at this
 .have:(B.drop j).drop 1=r:=by rw [e];rfl
  rwa [QD] at this
theorem drop_nil{α:Type}{B:G α}(e:B.drop j=[]):B[j]?=none:=by
 rw [Jm]
 have:=cq zh e
 rw [rL,rM] at this
 lia
theorem SI.next(S:St c w J F C o s.heap){it dJ:It}{i:aA}(x:SI c w F C s.heap it i)(hi:i∈F)(e:e_ o it=some (some (m,dJ))){Q:aa aw->aT->Prop}
  (q:∀v M,VR c w F C s.heap m v->SI c w F C M dJ i->iC i s.heap M->(∃E,M.get? i=some E)->Q (some v) {s with heap:=M}):bo (bK c w.w) Y (qh (.ref i)) Q au s:=by
 have ex:∀{M:aP} {a k},M.IsListIter i a k->∃E,M.get? i=some E:=λ⟨E,ho,_⟩=>⟨E,ho⟩
 cases it with
 |lst j k=>
  refine ay x λa p1 g=>?_
  have e':(match listAt o j with|some B=>(match fJ B k with|some v=>some (some (v,It.lst j (cX k)))|.none=>some .none)|.none=>.none)=some (some (m,dJ)):=e
  unfold listAt at e'
  generalize e1:o.t.get j=ax at e'
  cases ax with
  |none=>exact aB e'
  |some E=>
   have r:=S.ref p1 e1
   cases E with
   |list b r'=>
    dsimp only at e'
    refine eO r λV n g0 y z=>?_
    generalize e2:fJ (rv r') k=ax at e'
    cases ax with
    |none=>cases e'
    |some v=>
     cases e'
     rw [oN,fD] at e2
     have y':aW c w F C s.heap r'.reverse V.toList:=by have:=y.reverse;rwa [mU] at this
     refine ay (y'.get e2) λu hu vu=>?_
     exact PY g ⟨_,g0,rfl,n,rfl⟩ (by simpa using hu) λM eZ hs=>q u M vu ⟨a,p1,eZ⟩ hs (ex eZ)
   |_=>exact aB e'
 |tup B=>
  obtain⟨t,V,n,j,sf,g,qi,y⟩:=x
  cases B with
  |nil=>cases e
  |cons m' B=>
   cases e
   obtain⟨u,r,z,vu,y2⟩:=y.cj
   refine xA (drop_cons z) λz1 z2=>?_
   have kJ:t≠i:=λz=>sf.1 (z▸hi)
   refine wpAny_pyNext_tuple_item qi ⟨_,g,rfl,n,rfl⟩ (by simpa using z1) λM eZ hs=>?_
   have hx:∃E,M.get? i=some E:=let⟨E,ho,_⟩:=eZ;⟨E,ho⟩
   refine xA (S.turn hi hs hx) λst _=>?_
   have hF:∀b∈[i],b∈F:=λb hb=>by rw [cA.mp hb];exact hi
   exact q u M vu ⟨t,V,n,j+1,sf,(hs.2 t kJ).trans g,eZ,by rw [z2];exact y2.fx hF st⟩ hs hx
 |bz B=>
  obtain⟨t,V,n,j,sf,g,qi,y⟩:=x
  cases B with
  |nil=>cases e
  |cons m' B=>
   cases e
   obtain⟨u,r,z,vu,y2⟩:=y.cj
   refine xA (drop_cons z) λz1 z2=>?_
   have kJ:t≠i:=λz=>sf.1 (z▸hi)
   refine PY qi ⟨_,g,rfl,n,rfl⟩ (by simpa using z1) λM eZ hs=>?_
   refine xA (S.turn hi hs (ex eZ)) λst _=>?_
   have hF:∀b∈[i],b∈F:=λb hb=>by rw [cA.mp hb];exact hi
   exact q u M vu ⟨t,V,n,j+1,sf,(hs.2 t kJ).trans g,eZ,by rw [z2];exact y2.fx hF st⟩ hs (ex eZ)
 |_=>exact x.elim
theorem SI.stop(hh:Y.handled=none)(S:St c w J F C o s.heap){it:It}(x:SI c w F C s.heap it i)(e:e_ o it=some none)
  (q:∀M,I5 i s.heap M->Q none {s with heap:=M}):bo (bK c w.w) Y (qh (.ref i)) Q au s:=by
 cases it with
 |lst j k=>
  refine ay x λa p1 g=>?_
  have e':(match listAt o j with|some B=>(match fJ B k with|some v=>some (some (v,It.lst j (cX k)))|.none=>some .none)|.none=>.none)=some none:=e
  unfold listAt at e'
  generalize e1:o.t.get j=ax at e'
  cases ax with
  |none=>exact aB e'
  |some E=>
   have r:=S.ref p1 e1
   cases E with
   |list b r'=>
    dsimp only at e'
    refine eO r λV n g0 y z=>?_
    generalize e2:fJ (rv r') k=ax at e'
    cases ax with
    |some v=>cases e'
    |none=>
     rw [oN,fD] at e2
     have y':aW c w F C s.heap r'.reverse V.toList:=by have:=y.reverse;rwa [mU] at this
     have:=y'.length
     rw [hX] at this
     rw [Jm] at e2
     exact PX hh g ⟨_,g0,rfl,n,rfl⟩ (IT (by lia)) q
   |_=>exact aB e'
 |tup B=>
  obtain⟨t,V,n,j,sf,g,qi,y⟩:=x
  cases B with
  |nil=>exact wpAny_pyNext_tuple_end hh qi ⟨_,g,rfl,n,rfl⟩ (by simpa using drop_nil y.dW) q
  |cons m' B=>cases e
 |bz B=>
  obtain⟨t,V,n,j,sf,g,qi,y⟩:=x
  cases B with
  |nil=>exact PX hh qi ⟨_,g,rfl,n,rfl⟩ (by simpa using drop_nil y.dW) q
  |cons m' B=>cases e
 |_=>exact x.elim
end
section
set_option tactic.hygienic true
section
variable{ag:Type}{Z:cU ag}{ae:ag->Prop}{c:a_}{w:WB}{Y:bG}{own F F' C ao:G aA}{s:aT}{J h M:aP}{o br:MH}{K:b8}{W:bQ}{mg mb:ar->aa aw}{n:H}{cx:Cx}{fr:Fm}{X:cK}{O:Ops ag}
set_option backward.match.sparseCases true in
theorem M4(ho:s.heap.get? i=some E)(hc:E.cls=.type I)(hn:["enumerate","zip","dict_itemiterator","dict_reverseitemiterator","odict_iterator","itertools.zip_longest","itertools.pairwise"].contains I=false)
  (q:Q () s):bo (bK c w.w) Y (A2 t (.ref i) u) Q au s:=by
 have key:∀a,bo (bK c w.w) Y (do
   let E <-load i
   match E.cls,E.data with
   |.type n,.fields V=>
    if ["enumerate","zip","dict_itemiterator","dict_reverseitemiterator","odict_iterator","itertools.zip_longest","itertools.pairwise"].contains n&&V[0]?==some (rawInt (a:aA)) then
     rule "for.unpacks-the-owned-tuple"
     updateField i 0 .none
   |_,_=>pure ()) Q au s:=by
  intro a
  refine aO (wpAny_load ho ?_)
  rw [hc]
  split
  .rename_i c' V e1 e2
   cases e1
   rw [hn,Bool.false_and,bk fY]
   exact bX q
  .exact bX q
 unfold A2
 cases t<;>first|exact bX q|(cases u<;>first|exact bX q|exact key _)
theorem X9(x:SI c w F C h it i):∃E I,h.get? i=some E/\E.cls=.type I/\["enumerate","zip","dict_itemiterator","dict_reverseitemiterator","odict_iterator","itertools.zip_longest","itertools.pairwise"].contains I=false:=by
 cases it with
 |lst j k=>obtain⟨a,e,E,ho,hc,_⟩:=x;exact⟨E,_,ho,hc,by decide⟩
 |tup B=>obtain⟨t,V,n,j,sf,g,⟨E,ho,hc,_⟩,y⟩:=x;exact⟨E,_,ho,hc,by decide⟩
 |bz B=>obtain⟨t,V,n,j,sf,g,⟨E,ho,hc,_⟩,y⟩:=x;exact⟨E,_,ho,hc,by decide⟩
 |_=>exact x.elim
noncomputable def zE(c:a_)(w:WB)(J:aP):Prop:=
 ∀{Y:bG} {F C own:G aA} {s:aT} {o:MH} {a b dJ:It} {v:aw} {m:D} {t:aX} {Q':aw->aT->Prop} {au E':aw->aT->Prop},St c w J F C o s.heap->(∀b∈own,b∈F)->fO c w F C s.heap (.zip a b) v own->Ib (.zip a b) t->e_ o (.zip a b)=some (some (m,dJ))->
  (∀u M tk,bh own C s.heap C M->St c w J F C o M->VR c w F C M m u->fO c w F C M dJ v own->Q' u {s with heap:=M,toks:=tk})->
  bo (bK c w.w) Y (qh v) (λr fX=>∃u,r=some u/\bo (bK c w.w) Y (A2 t v u) (λ_ kU=>Q' u kU) E' fX) au s
noncomputable def zF(c:a_)(w:WB)(J:aP):Prop:=
 ∀{Y:bG} {F C own:G aA} {s:aT} {o:MH} {a b:It} {v:aw} {Q:aa aw->aT->Prop} {au:aw->aT->Prop},Y.handled=none->St c w J F C o s.heap->(∀b∈own,b∈F)->fO c w F C s.heap (.zip a b) v own->e_ o (.zip a b)=some none->
  (∀M,(∀b E,b∉own->s.heap.get? b=some E->M.get? b=some E)->Q none {s with heap:=M})->bo (bK c w.w) Y (qh v) Q au s
theorem fO.next(ZN:zE c w J)(S:St c w J F C o s.heap)(hF:∀b∈own,b∈F)(x:fO c w F C s.heap it v own)(ht:Ib it t)(e:e_ o it=some (some (m,dJ))){Q':aw->aT->Prop}
  (q:∀u M tk,bh own C s.heap C M->St c w J F C o M->VR c w F C M m u->fO c w F C M dJ v own->Q' u {s with heap:=M,toks:=tk}):
  bo (bK c w.w) Y (qh v) (λr fX=>∃u,r=some u/\bo (bK c w.w) Y (A2 t v u) (λ_ kU=>Q' u kU) E' fX) au s:=by
 have si:∀{it dJ:It},(∃i,v=.ref i/\own=[i]/\SI c w F C s.heap it i)->e_ o it=some (some (m,dJ))->(∀u M tk,bh own C s.heap C M->St c w J F C o M->VR c w F C M m u->(∃i,v=.ref i/\own=[i]/\SI c w F C M dJ i)->Q' u {s with heap:=M,toks:=tk})->
   bo (bK c w.w) Y (qh v) (λr fX=>∃u,r=some u/\bo (bK c w.w) Y (A2 t v u) (λ_ kU=>Q' u kU) E' fX) au s:=by
  rintro it dJ ⟨i,rfl,rfl,sx⟩ e q
  have hi:i∈F:=hF i (.head _)
  refine SI.next S sx hi e λu M vu O7 hs hx=>⟨u,rfl,?_⟩
  refine eO (X9 O7) λE I ho hc hn=>?_
  refine xA (S.turn hi hs hx) λst S'=>?_
  exact M4 (s:={s with heap:=M}) ho hc hn (q u M s.toks st S' (vu.fx hF st) ⟨i,rfl,rfl,O7⟩)
 cases it with
 |range k n=>
  refine eK x ?_;clear x;intro i left aE bU g hl;subst aE;subst bU
  have hi:i∈F:=hF i (.head _)
  have e':(match ltZ k n with|true=>some (some (.int k,It.range (k+1) n))|false=>some none)=some (some (m,dJ)):=e
  generalize I:ltZ k n=ax at e'
  cases ax with
  |false=>cases e'
  |true=>
   cases e'
   have hk:=(j5 k n).mp I
   refine wpAny_pyNext_range_item g (by lia) λM g' hs=>⟨_,rfl,?_⟩
   refine xA (S.turn hi hs ⟨_,g'⟩) λst S'=>?_
   refine M4 (s:={s with heap:=M,toks:=s.toks+1}) g' rfl (by decide) (q _ M _ st S' (by exact⟨_,rfl⟩) ⟨i,_,rfl,rfl,g',by lia⟩)
 |zip a b=>exact ZN S hF x ht e q
 |lst i k=>
  refine si (dJ:=dJ) x e λu M tk st S' vu sx=>q u M tk st S' vu ?_
  refine fM sx ?_;clear sx;intro i h1 h2 sx
  cases dJ with
  |range _ _=>exact sx.elim
  |zip _ _=>exact sx.elim
  |_=>exact⟨i,h1,h2,sx⟩
 |tup B=>
  refine si (dJ:=dJ) x e λu M tk st S' vu sx=>q u M tk st S' vu ?_
  refine fM sx ?_;clear sx;intro i h1 h2 sx
  cases dJ with
  |range _ _=>exact sx.elim
  |zip _ _=>exact sx.elim
  |_=>exact⟨i,h1,h2,sx⟩
 |bz B=>
  refine si (dJ:=dJ) x e λu M tk st S' vu sx=>q u M tk st S' vu ?_
  refine fM sx ?_;clear sx;intro i h1 h2 sx
  cases dJ with
  |range _ _=>exact sx.elim
  |zip _ _=>exact sx.elim
  |_=>exact⟨i,h1,h2,sx⟩
theorem fO.stop(ZS:zF c w J)(hh:Y.handled=none)(S:St c w J F C o s.heap)(hF:∀b∈own,b∈F)(x:fO c w F C s.heap it v own)(e:e_ o it=some none)
  (q:∀M,(∀b E,b∉own->s.heap.get? b=some E->M.get? b=some E)->Q none {s with heap:=M}):bo (bK c w.w) Y (qh v) Q au s:=by
 have si:∀{it:It},(∃i,v=.ref i/\own=[i]/\SI c w F C s.heap it i)->e_ o it=some none->bo (bK c w.w) Y (qh v) Q au s:=by
  rintro it ⟨i,rfl,rfl,sx⟩ e
  exact SI.stop hh S sx e λM hs=>q M λb E nb e=>hs b E (λz=>nb (cA.mpr z)) e
 cases it with
 |range k n=>
  refine eK x ?_;clear x;intro i left aE bU g hl;rw [aE];subst bU
  have e':(match ltZ k n with|true=>some (some (D.int k,It.range (k+1) n))|false=>some none)=some none:=e
  generalize I:ltZ k n=ax at e'
  cases ax with
  |true=>cases e'
  |false=>
   have hk:¬k<n:=λz=>by rw [(j5 k n).mpr z] at I;exact Ie I
   exact wpAny_pyNext_range_end hh g (by lia) λM hs=>q M λb E nb e=>hs b E (λz=>nb (cA.mpr z)) e
 |zip a b=>exact ZS hh S hF x e q
 |lst i k=>exact si x e
 |tup B=>exact si x e
 |bz B=>exact si x e
theorem D5(hk:∀b E,b∉own->h.get? b=some E->M.get? b=some E):∀b E,h.get? b=some E->cM (own++F) C b->M.get? b=some E/\cM F C b:=λb E e x=>⟨hk b E (λq=>x.1 (iR _ q)) e,λq=>x.1 (fC _ q),x.2⟩
theorem VR.drop(hk:∀b E,b∉own->h.get? b=some E->M.get? b=some E)(x:VR c w (own++F) C h m v):VR c w F C M m v:=x.mono (D5 hk) (.inr λ_ _ e=>e)
theorem St.drop(S:St c w J (own++F) C o h)(hk:∀b E,b∉own->h.get? b=some E->M.get? b=some E)(hd:∀b∈own,b∉F):St c w J F C o M:=by
 have no:∀b∈own,b∉C/\J.get? b=none:=λb hb=>(S.cI b (iR _ hb)).2
 refine⟨λb x e=>⟨hk b x (λq=>by rw [(no b q).2] at e;exact aB e) (S.keep b x e).1,(S.keep b x e).2⟩,S.len,S.apart,λb hb=>?_,λj b e=>?_⟩
 .obtain⟨⟨x,hx⟩,n1,n2⟩:=S.cI b (fC _ hb)
  exact⟨⟨x,hk b x (λq=>hd b q hb) hx⟩,n1,n2⟩
 .refine ay (S.at_ j b e) λx hx r=>?_
  refine bw r.some λy hy=>?_
  exact⟨x,hx,tj (D5 hk) (λ_ _ e=>e) ((hk b y (λq=>(no b q).1 (dy e)) hy).trans hy.symm) r⟩
theorem cH.drop(hk:∀b E,b∉own->h.get? b=some E->M.get? b=some E)(hd:∀b∈own,b∉F)(gF:∀b∈ownOf X,b∈F)(az:cH c w (own++F) C h cx fr X):cH c w F C M cx fr X:=
 az.gen (λb hb E e=>hk b E (λq=>hd b q (gF b hb)) e) gF λ_ _ v=>v.drop hk
end
end
section
variable{ag:Type}{Z:cU ag}{ae:ag->Prop}{c:a_}{w:WB}{Y:bG}{own F F' C ao:G aA}{s:aT}{J h M:aP}{o br:MH}{K:b8}{W:bQ}{mg mb:ar->aa aw}{n:H}{cx:Cx}{fr:Fm}{X:cK}{O:Ops ag}
inductive wh(ae:ag->Prop)(c:a_)(w:WB)(J:aP)(F C:G aA)(h:aP)(k:It->MH->ag)(eF:aw)(ao:G aA)(M:aP):Prop
 |mk (it:It) (own:G aA) (br:MH) (h1:aP):bh [] C h ao h1->St c w J F ao br h1->jx J h1 M ao own->own.Nodup->fO c w (own++F) ao M it eF own->ae (k it br)->wh ae c w J F C h k eF ao M
theorem adV(S:St c w J F C o s.heap){m:D}(e:pV o m=some it)(hh:ae (k it o))(x:VR c w F C s.heap m v)
  (q:∀eF M tk,wh ae c w J F C s.heap k eF C M->Q eF {s with heap:=M,toks:=tk}):bo (bK c w.w) Y (oQ v) Q au s:=by
 have fr:∀E:jy,E.isFreed=false->jx J s.heap (s.heap.push E) C [s.heap.objs.size]:=λE ho=>⟨fK _ _,λb hb=>by rw [cA.mp hb];exact⟨hV _,_,hZ _ ho⟩⟩
 cases m with
 |tup B=>
  cases e
  refine gr.el x.gj λt V n bU sf g y=>?_;rw [bU]
  refine afz ⟨_,g,rfl,n,rfl⟩ (q _ _ s.toks ⟨.tup B,[s.heap.objs.size],o,s.heap,.refl ..,S,fr _ rfl,by simp,?_,hh⟩)
  refine xA (pH (fr {cls:=.type "tuple_iterator",data:=.fields #[.ref t,.int 0 0]} rfl) _ _ g sf) λg' j8=>?_
  exact⟨_,rfl,rfl,t,V,n,0,j8,g',⟨_,hZ _ rfl,rfl,rfl⟩,by rw [Cq];exact y.enter (fr _ rfl)⟩
 |ref i=>
  have e':(match o.t.get i with|some E=>(match E with|.list _ _=>some (It.lst i 0)|_=>.none)|.none=>.none)=some it:=e
  refine ay x ?_;clear x;intro a p1 aE;subst aE
  generalize e1:o.t.get i=ax at e'
  cases ax with
  |none=>exact aB e'
  |some E=>
   have r:=S.ref p1 e1
   cases E with
   |list b r'=>
    cases e'
    refine eO r λV n g y z=>?_
    exact Ca ⟨_,g,rfl,n,rfl⟩ (q _ _ s.toks ⟨.lst i 0,[s.heap.objs.size],o,s.heap,.refl ..,S,fr _ rfl,by simp,⟨_,rfl,rfl,a,p1,_,hZ _ rfl,rfl,rfl⟩,hh⟩)
   |_=>exact aB e'
 |aD I B=>
  cases I with
  |list b=>
   cases e
   refine dO x λt V n bU bB=>eN bB λsf g _ dA=>xA dA λ_ y=>?_;rw [bU]
   refine Ca ⟨_,g,rfl,n,rfl⟩ (q _ _ s.toks ⟨.bz B,[s.heap.objs.size],o,s.heap,.refl ..,S,fr _ rfl,by simp,?_,hh⟩)
   refine xA (pH (fr {cls:=.type "list_iterator",data:=.fields #[.ref t,.int 0 0]} rfl) _ _ g sf) λg' j8=>?_
   exact⟨_,rfl,rfl,t,V,n,0,j8,g',⟨_,hZ _ rfl,rfl,rfl⟩,by rw [Cq];exact y.enter (fr _ rfl)⟩
  |_=>exact aB e
 |_=>exact aB e
noncomputable def pw(ae:ag->Prop)(c:a_)(w:WB)(J:aP):Prop:=
 ∀{Y:bG} {F C:G aA} {s:aT} {o:MH} {m1 m2:D} {v1 v2:aw} {a b:It} {k:It->MH->ag} {Q:aw->aT->Prop} {au E':aw->aT->Prop},Y.handled=none->St c w J F C o s.heap->pV o m1=some a->pV o m2=some b->VR c w F C s.heap m1 v1->VR c w F C s.heap m2 v2->ae (k (.zip a b) o)->
  (∀eF M tk,wh ae c w J F C s.heap k eF C M->Q eF {s with heap:=M,toks:=tk})->bo (bK c w.w) Y (call (.type "zip") [v1,v2]) (λx fX=>bo (bK c w.w) Y (oQ x) Q E' fX) au s
theorem adC{n:ba}(I:small n=true):Qh 0 n 1=true/\(0<n->wj 0 n 1=n)/\(n<=0->wj 0 n 1=0):=by
 refine xA (aN.mp (I:(ltZ n 4611686018427387904&&ltZ (-4611686018427387904) n)=true)) λc1 c2=>?_
 have c1:=(j5 _ _).mp c1
 have c2:=(j5 _ _).mp c2
 have r1:0<n->wj 0 n 1=n:=λh=>by
  unfold wj
  simp [h]
 have r2:n<=0->wj 0 n 1=0:=λh=>by
  unfold wj
  have:¬0<n:=by lia
  simp [this]
 refine⟨?_,r1,r2⟩
 have p:(2:ba)^63=9223372036854775808:=by decide
 unfold Qh Builtin.Range.rangeFitsLong
 by_cases h:0<n
 .rw [r1 h]
  simp
  lia
 .rw [r2 (by lia)]
  simp
  lia
noncomputable def wN(e:aX):VI->Prop
 |.one x _ a=>∃p pos,e=.Call (.Name x p) [a] [] pos/\gG [a]=true/\(x==("__debug__" :ar))=false
 |.two x _ a b=>∃p pos,e=.Call (.Name x p) [a,b] [] pos/\gG [a,b]=true/\(x==("__debug__" :ar))=false
 |.other=>jz
theorem afd(e:aX):wN e (B6 e):=by
 cases e with
 |Call f args kw pos=>cases kw with
  |cons=>trivial
  |nil=>cases f with
   |Name x p=>
    refine(?_:wN _ (match seq x tC with|true=>VI.other|false=>PG x (.Name x p) args))
    cases q:seq x tC with
    |true=>trivial
    |false=>
     have hd:(x==("__debug__" :ar))=false:=NP (by rw [q];rfl)
     cases args with
     |nil=>trivial
     |cons a r=>cases r with
      |nil=>
       refine(?_:wN _ (match gG [a] with|true=>VI.one x _ a|false=>.other))
       cases I:gG [a] with
       |true=>exact⟨p,pos,rfl,I,hd⟩
       |false=>trivial
      |cons b r=>cases r with
       |nil=>
        refine(?_:wN _ (match gG [a,b] with|true=>VI.two x _ a b|false=>.other))
        cases I:gG [a,b] with
        |true=>exact⟨p,pos,rfl,I,hd⟩
        |false=>trivial
       |cons=>trivial
   |_=>trivial
 |_=>trivial
theorem PI{e:aX}(h:B6 e=v):wN e v:=h▸afd e
theorem Nu(T:Top c w K W J mg mb)(aq:Ctx c w J n Y F C s o cx fr X){x:ar}(hx:(x==("__debug__" :ar))=false)(e:nameOf W cx fr x=some (.bi b))(q:Q b.value s):
  bo (bK c w.w) Y (eval (.Name x p) X) Q au s:=by
 refine ay (Nv (Y:=Y) T aq.st aq.fr e) λv x1 x2=>?_
 subst x1
 exact wpAny_Name (x2 Q au q) hx
theorem Fw(Zk:bZ Z ae)(T:Top c w K W J mg mb)(ZS:pw ae c w J)(bl:fm ae c w J n O.ev)(aq:Ctx c w J n Y F C s o cx fr X){e:aX}{k:It->MH->ag}(hh:ae (uH Z W O cx e fr o k))
  {Q:aw->aT->Prop} {au E':aw->aT->Prop} (q:∀eF ao M tk,wh ae c w J F C s.heap k eF ao M->Q eF {s with heap:=M,toks:=tk}):bo (bK c w.w) Y (eval e X) (λx fX=>bo (bK c w.w) Y (oQ x) Q E' fX) au s:=by
 have other:ae (qN Z O cx e fr o k)->bo (bK c w.w) Y (eval e X) (λx fX=>bo (bK c w.w) Y (oQ x) Q E' fX) au s:=by
  intro hh
  refine bl Y F C s o cx e fr X _ aq hh _ _ λv1 bq h1 aZ aS p1=>?_
  refine PV.el p1 λm1 bM bR S1 x1=>?_
  refine ay (gW Zk bR) λit e1 de=>?_
  refine adV (s:={s with heap:=h1,toks:=aZ}) S1 e1 de x1 λeF h2 bS b=>q eF bq h2 bS ?_
  obtain⟨dJ,own,br,sF,st,S',f,nd,r,hk⟩:=b
  exact⟨dJ,own,br,sF,aS.trans st,S',f,nd,r,hk⟩
 unfold uH at hh
 generalize hv:B6 e=ax at hh
 cases ax with
 |other=>exact other hh
 |one x f a=>
  dsimp only at hh
  generalize hn:nameOf W cx fr x=ax at hh
  cases ax with
  |none=>exact other hh
  |some v=>
   dsimp only at hh
   cases v with
   |bi b=>
    cases b with
    |range=>
     refine eO (PI hv) λp pos aE ns hd=>?_;rw [aE]
     have e':ae (O.ev cx a fr o λv o=>match v with|.int n=>@bN (λ_=>ag) Z.fail (k (.range 0 n) o) (small n)|_=>Z.fail):=hh
     rw [Dh]
     refine aO (Nu T aq hd hn ?_)
     refine xA (s_ ns) λ_ hs=>?_
     refine DC (P:=λ_=>jz) (by rw [yh ns];rfl) (λh _=>⟨.machine,.inr (.inl rfl),.now⟩) ?_
     rw [hs X]
     refine Lp ?_
     refine spliced_cons ?_
     refine(?_:bo (bK c w.w) Y (if false=true then _ else eval a X) _ _ _)
     rw [bk fY]
     refine bl Y F C s o cx a fr X _ aq e' _ _ λv1 bq h1 aZ aS p1=>?_
     refine PV.el p1 λm1 bM bR S1 x1=>?_
     cases m1 with
     |int i=>
      refine bw x1 ?_;clear x1;intro t aI;rw [aI]
      refine xA (iU (x:=Z.fail) Zk (bR:ae (@bN (λ_=>ag) Z.fail (k (.range 0 i) bM) (small i)))) λI bR=>?_
      refine cf (adC I) λc1 c2 c3=>?_
      refine spliced_nil ⟨trivial,?_⟩
      refine(?_:bo (bK c w.w) Y (call (.type "range") [.int i t]) _ _ _)
      refine call_range_1 ?_
      refine wpAny_pyIter_range (IsRange.new ..) c1 ?_
      refine q _ bq _ _ ⟨.range 0 i,[(h1.push {cls:=.type "range",data:=.fields #[.int 0 aZ,.int i t,.int 1 (aZ+1)]}).objs.size],bM,h1.push {cls:=.type "range",data:=.fields #[.int 0 aZ,.int i t,.int 1 (aZ+1)]},aS.trans (.of_keeps (fK _ _)),(S1.grow (fK _ _)).2,⟨fK _ _,λb hb=>?_⟩,by simp,⟨_,_,rfl,rfl,hZ _ rfl,?_⟩,bR⟩
      .rw [cA.mp hb];exact⟨hV _,_,hZ _ rfl⟩
      .by_cases z:0<i
       .exact .inl (by rw [c2 z];lia)
       .exact .inr ⟨by rw [c3 (by lia)];exact I_ _,by lia⟩
     |_=>exact(Zk.fail bR).elim
    |zip=>exact(Zk.fail hh).elim
    |_=>exact other hh
   |_=>exact other hh
 |two x f a b=>
  dsimp only at hh
  generalize hn:nameOf W cx fr x=ax at hh
  cases ax with
  |none=>exact other hh
  |some v=>
   dsimp only at hh
   cases v with
   |bi I=>
    cases I with
    |zip=>
     refine eO (PI hv) λp pos aE ns hd=>?_;rw [aE]
     have e':ae (O.ev cx a fr o λv o=>O.ev cx b fr o λu o=>Z.opt (pV o v) λx=>Z.opt (pV o u) λy=>k (.zip x y) o):=hh
     rw [Dh]
     refine aO (Nu T aq hd hn ?_)
     refine xA (s_ ns) λaaH hs=>?_
     refine xA (s_ aaH) λ_ oE=>?_
     refine DC (P:=λ_=>jz) (by rw [yh ns];rfl) (λh _=>⟨.machine,.inr (.inl rfl),.now⟩) ?_
     rw [hs X,oE X]
     refine Lp ?_
     refine spliced_cons ?_
     refine(?_:bo (bK c w.w) Y (if false=true then _ else eval a X) _ _ _)
     rw [bk fY]
     refine bl Y F C s o cx a fr X _ aq e' _ _ λv1 bq h1 aZ aS p1=>?_
     refine PV.el p1 λm1 bM bR S1 x1=>?_
     refine spliced_cons ?_
     refine(?_:bo (bK c w.w) Y (if false=true then _ else eval b X) _ _ _)
     rw [bk fY]
     refine bl Y F bq _ bM cx b fr X _ (aq.next aS S1 aZ) bR _ _ λv2 bf h2 bS bp p2=>?_
     refine PV.el p2 λm2 dz de S2 x2=>?_
     refine ay (gW Zk de) λia ea dX=>?_
     refine ay (gW Zk dX) λib eb jY=>?_
     refine spliced_nil ⟨trivial,?_⟩
     refine(?_:bo (bK c w.w) Y (call (.type "zip") [v1,v2]) _ _ _)
     refine ZS (s:={s with heap:=h2,toks:=bS}) aq.room.1 S2 ea eb (x1.step bp) x2 jY λeF h3 ey bg=>q eF bf h3 ey ?_
     obtain⟨dJ,own,br,sF,st,S',f,nd,r,hk⟩:=bg
     exact⟨dJ,own,br,sF,aS.trans (bp.trans st),S',f,nd,r,hk⟩
    |_=>exact other hh
   |_=>exact other hh
end
section
variable{ag:Type}{Z:cU ag}{ae:ag->Prop}{c:a_}{w:WB}{Y:bG}{own F F' C ao:G aA}{s:aT}{J h M:aP}{o br:MH}{K:b8}{W:bQ}{mg mb:ar->aa aw}{n:H}{cx:Cx}{fr cy:Fm}{X:cK}{O:Ops ag}
theorem Nx{α:Type}{B:G (ar×α)}(nd:(B.map (·.1)).Nodup){i j:H}{a b:α}(e1:B[i]?=some (x,a))(e2:B[j]?=some (x,b)):i=j:=by
 refine bw (eM.mp e1) λh1 e1=>?_
 refine bw (eM.mp e2) λh2 e2=>?_
 have g1:(B.map (·.1))[i]'(by simpa using h1)=x:=by simp [e1]
 have g2:(B.map (·.1))[j]'(by simpa using h2)=x:=by simp [e2]
 exact(rK nd).mp (g1.trans g2.symm)
theorem Hy{α:Type}{B:G α}{a b:α}(e:(qa B k a)[i]?=some b):(i=k/\b=a)\/(i≠k/\B[i]?=some b):=by
 rw [qb,List.getElem?_set] at e
 by_cases q:k=i
 .rw [bT q] at e
  split at e
  .cases e;exact .inl ⟨q.symm,rfl⟩
  .exact aB e
 .rw [bk q] at e
  exact .inr ⟨λz=>q z.symm,e⟩
theorem lP(az:cH c w F C h cx fr X):∀b∈ownOf X,b∈F:=az.lP
noncomputable def eI(cx:Cx)(X:cK):G aA:=match cx.comp with
 |.none=>ownOf X
 |some _=>[X.locals]
theorem vJ:∀b∈eI cx X,b∈ownOf X:=by
 intro b hb
 unfold eI at hb
 generalize cx.comp=I at hb
 cases I with
 |none=>exact hb
 |some _=>rw [cA.mp hb];exact .head _
theorem Ow(k:X.scope.kind=.function):(X.scope.kind==.class||(X.scope.kind==.module&&X.locals !=X.globals))=false:=by rw [k];rfl
theorem M_{sc:G (ar×dc)}{vars:G (aa D)}{mm:ar->aa aw}(hv:∀(i:H) (y:ar) (mv:D),sc[i]?=some (y,qC)->vars[i]?=some (some mv)->∃u,mm y=some u/\VR c w F C h mv u)
  (nd:(sc.map (·.1)).Nodup) (i1:sc[k]?=some (x,.local)) (hn:M.Ns L (λy=>if y=x then some v else mm y)) (up:∀{mv u},VR c w F C h mv u->VR c w F C M mv u) (vx:VR c w F C h m v):pd c w F C M sc (qa vars k (some m)) L:=by
 refine⟨_,hn,λi y mv e1 e2=>?_⟩
 rcases Hy e2 with⟨rfl,z⟩|⟨z1,z2⟩
 .rw [aM z,(iS (aM (e1.symm.trans i1))).1]
  exact⟨v,bT rfl,up vx⟩
 .refine ay (hv i y mv e1 z2) λu u1 u2=>?_
  exact⟨u,by rw [bk λz=>z1 (Nx nd (z▸e1) i1)];exact u1,up u2⟩
theorem DE(aq:nU c w F C h vars X i y)(hk:∀I,X.cells.lookup y=some I->I≠X.locals->∀E,h.get? I=some E->M.get? I=some E)(up:∀{mv u},VR c w F C h mv u->VR c w F C M mv u)(sub:∀mv,qm[i]?=some (some mv)->vars[i]?=some (some mv)):nU c w F C M qm X i y:=by
 refine eK aq λI ov c1 c2 c4 c5=>?_
 exact⟨I,ov,c1,Kl c2 (hk I c1 c4),c4,λmv e2=>let⟨u,u1,u2⟩:=c5 mv (sub mv e2);⟨u,u1,up u2⟩⟩
theorem Hj{α:Type}{B:G α}{a b:α}(h:i≠k)(e:(qa B k a)[i]?=some b):B[i]?=some b:=(Hy e).elim (λq=>bP q.1 h) (·.2)
theorem MU{sc:G (ar×dc)}{i k:H}(h:a≠b)(e1:sc[i]?=some (y,a))(e2:sc[k]?=some (x,b)):i≠k:=λq=>by
 rw [q,e2] at e1
 exact h (iS (aM e1)).2.symm
theorem dm.putL{sc:G (ar×dc)}{vars:G (aa D)}{x:ar}{mm:ar->aa aw}(az:dm c w F C h sc vars X)(i1:sc[k]?=some (x,.local))(hv:∀(i:H) (y:ar) (mv:D),sc[i]?=some (y,qC)->vars[i]?=some (some mv)->∃u,mm y=some u/\VR c w F C h mv u)
  (hs:iC X.locals h M) (hn:M.Ns X.locals (λy=>if y=x then some v else mm y)) (up:∀{mv u},VR c w F C h mv u->VR c w F C M mv u) (vx:VR c w F C h m v):dm c w F C M sc (qa vars k (some m)) X:=
 ⟨az.kind,az.names,az.glob,az.blt,az.own,M_ hv az.nd i1 hn up vx,λi y e1=>DE (az.cell i y e1) (λI _ c4 E eo=>(hs.2 I c4).trans eo) up λmv e2=>Hj (MU (by decide) e1 i1) e2,az.apart,az.nd⟩
theorem dm.ach{sc:G (ar×dc)}{vars:G (aa D)}{x:ar}(az:dm c w F C h sc vars X)(i1:sc[k]?=some (x,.cell))(c1:X.cells.lookup x=some I)(c4:I≠X.locals)
  (hs:iC I h M) (hn:M.IsCell I (some v)) (up:∀{mv u},VR c w F C h mv u->VR c w F C M mv u) (vx:VR c w F C h m v):dm c w F C M sc (qa vars k (some m)) X:=by
 refine⟨az.kind,az.names,az.glob,az.blt,az.own,?_,λi y e1=>?_,az.apart,az.nd⟩
 .refine ay az.loc λmm hm hv=>?_
  exact⟨mm,GD hm (λE eo=>(hs.2 _ c4.symm).trans eo),λi y mv e1 e2=>let⟨u,u1,u2⟩:=hv i y mv e1 (Hj (MU (by decide) e1 i1) e2);⟨u,u1,up u2⟩⟩
 .by_cases z:i=k
  .rw [z] at e1⊢
   rw [(iS (aM (e1.symm.trans i1))).1]
   refine⟨I,some v,c1,hn,c4,λmv e2=>?_⟩
   rcases Hy e2 with⟨_,z⟩|⟨z1,z2⟩
   .rw [aM z];exact⟨v,rfl,up vx⟩
   .exact bP rfl z1
  .exact DE (az.cell i y e1) (λc' d1 _ E eo=>(hs.2 _ λz'=>z (Nx az.nd e1 (by rw [az.apart y x I (z'▸d1) c1];exact i1))).trans eo) up λmv e2=>Hj z e2
theorem mR.putL{mm:ar->aa aw}(az:mR c w F C h sc cB vars jU X)(i1:cB[k]?=some (x,.local))(hv:∀(i:H) (y:ar) (mv:D),cB[i]?=some (y,qC)->jU[i]?=some (some mv)->∃u,mm y=some u/\VR c w F C h mv u)
  (hs:iC X.locals h M) (hn:M.Ns X.locals (λy=>if y=x then some v else mm y)) (up:∀{mv u},VR c w F C h mv u->VR c w F C M mv u) (vx:VR c w F C h m v):mR c w F C M sc cB vars (qa jU k (some m)) X:=
 ⟨az.kind,az.glob,az.blt,az.kinds,az.own,az.KC,M_ hv az.nd i1 hn up vx,λi y e1 e2=>DE (az.cell i y e1 e2) (λI _ c4 E eo=>(hs.2 I c4).trans eo) up λ_ e=>e,az.nd⟩
theorem HK(S:St c w J F C o s.heap)(az:cH c w F C s.heap cx fr X)(e:store W cx fr x m=some cy)(vx:VR c w F C s.heap m v)
  (q:∀M tk,bh (eI cx X) C s.heap C M->St c w J F C o M->cH c w F C M cx cy X->Q () {s with heap:=M,toks:=tk}):bo (bK c w.w) Y (storeName X x v) Q au s:=by
 have gF:=lP az
 unfold store kQ at e
 unfold cH at az q
 unfold eI at q
 have h1:∀{I:aA},I∈ownOf X->∀b∈[I],b∈F:=λhc b hb=>by rw [cA.mp hb];exact gF _ hc
 generalize hc:cx.comp=ax at e az q
 cases ax with
 |none=>
  have cP:=BO W cx.sc x
  dsimp only at e az q
  generalize slotIn W cx.sc x=sl at e cP
  cases sl with
  |loc k=>
   refine ay cP λkd hk hi=>?_
   have e:=aM e
   subst e
   have ks:=dm.kindAt az hi
   rcases hk with rfl|rfl
   .refine ay az.loc λmm hm hv=>?_
    refine afB ks hm (λM hn hs=>?_) (Ow az.kind)
    refine xA (S.turn (gF _ (.head _)) hs (Bf hn)) λst S'=>?_
    exact q M _ (st.more λb hb=>.inl (by rw [cA.mp hb];exact .head _)) S' (dm.putL az (jZ hi).1 hv hs hn (λx=>x.fx (h1 (.head _)) st) vx)
   .refine eK (az.cell k x (jZ hi).1) λI ov c1 c2 c4 c5=>?_
    have EM:I∈ownOf X:=.tail _ (cF.mpr ⟨_,lookup_mem c1,rfl⟩)
    refine wpAny_storeName_cell az.kind ks c1 c2 λM hn hs=>?_
    refine xA (S.turn (gF _ EM) hs (let⟨E,ho,_⟩:=hn;⟨E,ho⟩)) λst S'=>?_
    exact q M _ (st.more λb hb=>.inl (by rw [cA.mp hb];exact EM)) S' (dm.ach az (jZ hi).1 c1 c4 hs hn (λx=>x.fx (h1 EM) st) vx)
  |jT=>exact cP.elim
  |_=>exact aB e
 |some cB=>
  have cP:=BN W cx.sc cB x
  dsimp only at e az q
  generalize vR W cx.sc cB x=sl at e cP
  cases sl with
  |jT k=>
   have e:=aM e
   subst e
   refine ay az.loc λmm hm hv=>?_
   refine afB ((az.kinds k x _ cP).1 rfl) hm (λM hn hs=>?_) (Ow az.kind)
   refine xA (S.turn (gF _ (.head _)) hs (Bf hn)) λst S'=>?_
   exact q M _ st S' (mR.putL az (jZ cP).1 hv hs hn (λx=>x.fx (h1 (.head _)) st) vx)
  |loc=>exact cP.elim
  |_=>exact aB e
theorem agX(az:cH c w F C h cx fr X):∀b∈ownOf X,b∈F:=lP az
theorem cH.ag6(hF:∀b∈F,b∉C)(st:bh [] C h ao M)(az:cH c w F C h cx fr X):cH c w F ao M cx fr X:=az.step st hF
noncomputable def JP(t:aX):VT->Prop
 |.name x=>∃p,t=.Name x p
 |.tup ts=>∃k p,t=.Tuple ts k p
 |.attr E x=>∃p,t=.Attribute E x p
 |.item E i=>∃p,t=.Subscript E i p
 |.bad=>jz
theorem PJ(t:aX):JP t (qo t):=by
 cases t with
 |Name x p=>exact⟨p,rfl⟩
 |Tuple ts k p=>exact⟨k,p,rfl⟩
 |Attribute E x p=>exact⟨p,rfl⟩
 |Subscript E i p=>cases i<;>first|trivial|exact⟨p,rfl⟩
 |_=>trivial
theorem B7(h:qo t=v):JP t v:=h▸PJ t
theorem OS(e:Mine.Internal.storeAll W cx (t::ts) (v::V) fr=some cy):∃x p fq,t=.Name x p/\store W cx fr x v=some fq/\Mine.Internal.storeAll W cx ts V fq=some cy:=by
 have e:(match qo t with
   |.name x=>match store W cx fr x v with
    |some fr=>Mine.Internal.storeAll W cx ts V fr
    |.none=>.none
   |_=>.none)=some cy:=e
 have is:=PJ t
 revert e
 generalize qo t=v' at is⊢
 intro e
 cases v' with
 |name x=>
  refine bw is ?_;clear is;intro p aI;rw [aI]
  have e:(match store W cx fr x v with|some fr=>Mine.Internal.storeAll W cx ts V fr|.none=>.none)=some cy:=e
  generalize e1:store W cx fr x v=ax at e
  cases ax with
  |none=>exact aB e
  |some fq=>exact⟨x,p,fq,rfl,e1,e⟩
 |_=>exact aB e
theorem OT:∀{B:G D} {fr cy:Fm},Mine.Internal.storeAll W cx ts B fr=some cy->ts.length=B.length/\∀X,(wX ts X).map (·.2)=ts.map (λt=>m9 t X)/\(wX ts X).length=ts.length/\(wX ts X).findIdx? (·.1)=none:=by
 induction ts with
 |nil=>
  intro B fr cy e
  cases B with
  |nil=>exact⟨rfl,λX=>⟨rfl,rfl,rfl⟩⟩
  |cons=>exact aB e
 |cons t ts O=>
  intro B fr cy e
  cases B with
  |nil=>exact aB e
  |cons v B=>
   obtain⟨x,p,fq,rfl,_,e⟩:=OS e
   refine xA (O e) λh1 h2=>?_
   refine⟨cq _ h1,λX=>⟨cq _ (h2 X).1,cq _ (h2 X).2.1,?_⟩⟩
   refine(?_:((false,m9 (.Name x p) X)::wX ts X).findIdx? (·.1)=none)
   rw [List.findIdx?_cons,(h2 X).2.2]
   rfl
theorem XK(ts:G aX):∀(B:G D) (V:G aw) (fr cy:Fm) (s:aT) (o:MH),St c w J F C o s.heap->cH c w F C s.heap cx fr X->Mine.Internal.storeAll W cx ts B fr=some cy->aW c w F C s.heap B V->∀{Q:mX->aT->Prop} {au:aw->aT->Prop},
  (∀M tk,bh (eI cx X) C s.heap C M->St c w J F C o M->cH c w F C M cx cy X->Q () {s with heap:=M,toks:=tk})->bo (bK c w.w) Y (zN (ts.map λt=>m9 t X) V) Q au s:=by
 induction ts with
 |nil=>
  intro B V fr cy s o S az e y Q au q
  cases B with
  |nil=>
   rw [y.dW]
   exact bX (q s.heap s.toks (.refl ..) S (aM e▸az))
  |cons=>exact aB e
 |cons t ts O=>
  intro B V fr cy s o S az e y Q au q
  cases B with
  |nil=>exact aB e
  |cons m B=>
   obtain⟨x,p,fq,rfl,e1,e⟩:=OS e
   obtain⟨v,gn,rfl,y1,y2⟩:=y.cj
   show bo _ _ (do xM gn (m9 (.Name x p) X v);zN (ts.map λt=>m9 t X) gn) Q au s
   refine aO (iP (afu (HK S az e1 y1 λh1 aZ aS S1 G1=>?_)))
   exact O B gn fq cy {s with heap:=h1,toks:=aZ} o S1 G1 e (y2.fx (λb hb=>lP az b (vJ b hb)) aS) λh2 bS bp S2 G2=>q h2 bS (aS.trans bp) S2 G2
theorem wZ(hh:Y.handled=none)(S:St c w J F C o s.heap)(az:cH c w F C s.heap cx fr X)(e:pC W cx fr t m=some cy)(x:VR c w F C s.heap m v)
  (q:∀M tk,bh (eI cx X) C s.heap C M->St c w J F C o M->cH c w F C M cx cy X->Q () {s with heap:=M,toks:=tk}):bo (bK c w.w) Y (m9 t X v) Q au s:=by
 unfold pC at e
 generalize hv:qo t=ax at e
 cases ax with
 |name y=>
  refine bw (B7 hv) λp aI=>?_;subst aI
  exact afu (HK S az e x q)
 |tup ts=>
  refine gK (B7 hv) λk p aE=>?_;subst aE
  dsimp only at e
  cases m with
  |tup B=>
   refine gr.el x.gj λa V n bU sf g y=>?_;rw [bU]
   refine xA (OT e) λh1 h2=>?_
   refine cf (h2 X) λh3 h4 h5=>?_
   have hl:=y.length
   rw [hX] at hl
   refine wpAny_assign_Tuple hh ⟨_,g,rfl,n,rfl⟩ (by rw [h4,h1,hl]) h5 λM hs=>?_
   rw [h3]
   have hk:∀b E,s.heap.get? b=some E->M.get? b=some E:=λb E e=>hs b E (qQ (hV _) e) e
   refine xA (S.grow hk) λst S'=>?_
   exact XK ts B V.toList fr cy {s with heap:=M} o S' (az.step st λa ha=>(S.cI a ha).2.1) e (y.step st) λh2 bS bp S2 G2=>q h2 bS (st.any.trans bp) S2 G2
  |_=>exact aB e
 |_=>exact aB e
end
section
set_option tactic.hygienic true
section
variable{ag:Type}(ae:ag->Prop)(c:a_)(w:WB)(J:aP)
noncomputable def wk(F C:G aA)(h:aP):eh->Flow->Prop
 |.next,f=>f=.next
 |.ret m,f=>∃v,f=.ret v/\VR c w F C h m v
inductive PF(F:G aA)(cx:Cx)(X:cK)(K:eh->Fm->MH->ag)(f:Flow)(ao:G aA)(M:aP):Prop
 |mk (g:eh) (cy:Fm) (br:MH):ae (K g cy br)->St c w J F ao br M->cH c w F ao M cx cy X->wk c w F ao M g f->PF F cx X K f ao M
noncomputable def lZ(n:H)(ex:Cx->en->Fm->MH->(eh->Fm->MH->ag)->ag):Prop:=
 ∀(Y:bG) (F C:G aA) (s:aT) (o:MH) (cx:Cx) (st:en) (fr:Fm) (X:cK) (k:eh->Fm->MH->ag),Ctx c w J n Y F C s o cx fr X->ae (ex cx st fr o k)->bc c w Y (eI cx X) C s (exec st X) (PF ae c w J F cx X k)
end
section
variable{ag:Type}{Z:cU ag}{ae:ag->Prop}{c:a_}{w:WB}{Y:bG}{own F F' C ao:G aA}{s:aT}{J h M:aP}{o br:MH}{K:b8}{W:bQ}{mg mb:ar->aa aw}{n:H}{cx:Cx}{fr cy:Fm}{X:cK}{O:Ops ag}
theorem PF.el{K:eh->Fm->MH->ag}{az:Prop}(z:PF ae c w J F cx X K f ao M)(k:∀g cy br,ae (K g cy br)->St c w J F ao br M->cH c w F ao M cx cy X->wk c w F ao M g f->az):az:=z.casesOn k
theorem cH.kind(az:cH c w F C h cx fr X):X.scope.kind=.function:=by
 unfold cH at az
 generalize cx.comp=I at az
 cases I with
 |none=>exact az.kind
 |some _=>exact az.kind
theorem ku(bl:lZ ae c w J n O.ex):∀(B:G en) (C:G aA) (s:aT) (o:MH) (fr:Fm) (k:eh->Fm->MH->ag),Ctx c w J n Y F C s o cx fr X->ae (iy O cx B fr o k)->bc c w Y (eI cx X) C s (iH B X) (PF ae c w J F cx X k):=by
 intro gu
 induction gu with
 |nil=>
  intro C s o fr k aq e
  exact λQ au q=>ID (q _ C s.heap s.toks (.refl ..) ⟨.next,fr,o,e,aq.st,aq.fr,rfl⟩)
 |cons st B fQ=>
  intro C s o fr k aq e
  intro Q au q
  have e':ae (O.ex cx st fr o λf fr o=>@eh.rec (λ_=>ag) (iy O cx B fr o k) (λv=>k (.ret v) fr o) f):=e
  refine wpAny_execs_cons (bl Y F C s o cx st fr X _ aq e' _ _ λf bq h1 aZ aS p1=>?_)
  obtain⟨g,fq,bM,bR,S1,G1,fl⟩:=p1
  cases g with
  |next=>
   cases fl
   exact fQ bq {s with heap:=h1,toks:=aZ} bM fq k ⟨aq.room,S1,G1⟩ bR _ _ λf2 bf h2 bS bp p2=>q f2 bf h2 bS (aS.trans bp) p2
  |ret m=>
   refine ay fl ?_;clear fl;intro v aI x;subst aI
   exact q _ bq h1 aZ aS ⟨.ret m,fq,bM,bR,S1,G1,v,rfl,x⟩
theorem aa4(h:Bk (.Tuple ts k p) (.Tuple V k' p')=true):vV [.Tuple ts k p] (.Tuple V k' p') X=pure none\/∃names,vV [.Tuple ts k p] (.Tuple V k' p') X=pure (some names)/\names.length=ts.length/\names.eraseDups.length=names.length/\
  ∃f:aX->aa ar,(∀t x,f t=some x->∃p,t=.Name x p)/\ts.filterMap f=names:=by
 have M:(V.any Gw||V.all (LH 8))=true:=h
 have hc:V.all (constantsAlone 8)=true->V.all (LH 8)=true:=λz=>by
  rcases k_.mp M with h1|h1
  .refine ay (zd.mp h1) λe he h2=>?_
   have:=l9.mp z e he
   cases e<;>first|cases h2;done|exact bz this
  .exact h1
 unfold vV
 dsimp only
 split
 .exact .inl rfl
 .split
  .exact .inl rfl
  .split
   .exact .inl rfl
   .rename_i h3
    split
    .exact .inl rfl
    .rename_i h4
     split
     .rename_i h5
      exact bP (hc h5) h4
     .refine .inr ⟨_,rfl,?_,?_,_,?_,rfl⟩
      .exact Ql λz=>h3 (k_.mpr (.inl (bne_iff_ne.mpr z)))
      .exact Ql λz=>h3 (k_.mpr (.inr (bne_iff_ne.mpr z)))
      .intro t x h
       cases t with
       |Name id p=>
        dsimp only at h
        split at h
        .cases h;exact⟨p,rfl⟩
        .exact aB h
       |_=>exact aB h
theorem UI(n:H):∀(B:G ar),B.length<=n->B.eraseDups.length<=B.length:=by
 induction n with
 |zero=>exact λB h=>by rw [wA.mp (Jx.mp h)];exact fG _
 |succ n O=>
  intro B h
  cases B with
  |nil=>exact fG _
  |cons a B=>
   rw [QF]
   have h1:=QP (λb=>!b==a) B
   exact n4 (dQ (O (B.filter λb=>!b==a) (dQ h1 (Jw h))) h1)
theorem UJ{B:G ar}(h:B.eraseDups.length=B.length):B.Nodup:=by
 induction B with
 |nil=>exact rO
 |cons a B O=>
  rw [QF] at h
  have h:=lu h
  have h1:=QP (λb=>!b==a) B
  have h2:=UI _ (B.filter λb=>!b==a) (fG _)
  have hf:B.filter (λb=>!b==a)=B:=Jh.mpr (List.length_filter_eq_length_iff.mp (Nat.le_antisymm h1 (h▸h2)))
  rw [hf] at h
  refine ic.mpr ⟨λz=>?_,O h⟩
  have:=Jh.mp hf a z
  rw [r7] at this
  exact bz this
noncomputable def kT(W:bQ)(cx:Cx)(xs:G ar):G D->Fm->aa Fm:=@b9 ar (λ_=>G D->Fm->aa Fm)
 (λB fr=>@b9 D (λ_=>aa Fm) (some fr) (λ_ _ _=>none) B)
 (λx _ O B fr=>@b9 D (λ_=>aa Fm) none (λv V _=>(store W cx fr x v).bind λfr=>O V fr) B) xs
theorem adZ(hf:∀t x,f t=some x->∃p,t=.Name x p):∀{B:G D} {fr:Fm},(ts.filterMap f).length=ts.length->Mine.Internal.storeAll W cx ts B fr=kT W cx (ts.filterMap f) B fr:=by
 induction ts with
 |nil=>exact λ{B fr} _=>by cases B<;>rfl
 |cons t ts O=>
  intro B fr h
  have W9:=List.length_filterMap_le f ts
  cases q:f t with
  |none=>
   rw [zf,q] at h
   have h:(ts.filterMap f).length=ts.length+1:=h
   exact bP (h▸W9) (Nat.not_succ_le_self _)
  |some x=>
   rw [zf,q] at h⊢
   refine bw (hf t x q) λp aI=>?_;subst aI
   cases B with
   |nil=>rfl
   |cons v B=>
    refine(?_:(match store W cx fr x v with|some fr=>Mine.Internal.storeAll W cx ts B fr|.none=>.none)=(store W cx fr x v).bind λfr=>kT W cx (ts.filterMap f) B fr)
    cases store W cx fr x v with
    |none=>rfl
    |some fq=>exact O (lu h)
theorem adA(h1:kQ W cx x=.loc k)(h2:kQ W cx y=.loc k):x=y:=by
 have key:∀{z:ar},kQ W cx z=.loc k->∃kd,cx.sc[k]?=some (z,kd):=by
  intro z h
  unfold kQ at h
  generalize hc:cx.comp=ax at h
  cases ax with
  |none=>
   refine ay ((show slotIn W cx.sc z=Slot.loc k from h)▸BO W cx.sc z) λkd _ hi=>?_
   exact⟨kd,(jZ hi).1⟩
  |some cB=>
   exact((show vR W cx.sc cB z=Slot.loc k from h)▸BN W cx.sc cB z).elim
 refine bw (key h1) λ_ e1=>?_
 refine bw (key h2) λ_ e2=>?_
 exact(iS (aM (e1.symm.trans e2))).1
theorem adz(h1:kQ W cx x=.jT k)(h2:kQ W cx y=.jT k):x=y:=by
 have key:∀{z:ar},kQ W cx z=.jT k->∃cB kd,cx.comp=some cB/\cB[k]?=some (z,kd):=by
  intro z h
  unfold kQ at h
  generalize hc:cx.comp=ax at h
  cases ax with
  |none=>
   exact((show slotIn W cx.sc z=Slot.jT k from h)▸BO W cx.sc z).elim
  |some cB=>
   have hi:=(show vR W cx.sc cB z=Slot.jT k from h)▸BN W cx.sc cB z
   exact⟨cB,_,rfl,(jZ hi).1⟩
 refine jv (key h1) λc1 _ d1 e1=>?_
 refine jv (key h2) λc2 _ d2 e2=>?_
 rw [<-aM (d1.symm.trans d2)] at e2
 exact(iS (aM (e1.symm.trans e2))).1
theorem ad3(kJ:x≠y):((store W cx fr x a).bind λf=>store W cx f y b)=(store W cx fr y b).bind λf=>store W cx f x a:=by
 unfold store
 cases h1:kQ W cx x<;>cases h2:kQ W cx y<;>simp only [Option.bind_some,Option.bind_none,Rz]
 .rename_i k j
  have:k≠j:=λz=>kJ (adA h1 (z▸h2))
  rw [qb,qb,qb,qb,Q4 _ _ this]
 .rename_i k j
  have:k≠j:=λz=>kJ (adz h1 (z▸h2))
  rw [qb,qb,qb,qb,Q4 _ _ this]
theorem ad0(xs:G ar):∀(B:G D) (fr:Fm),x∉xs->((store W cx fr x a).bind λf=>kT W cx xs B f)=(kT W cx xs B fr).bind λf=>store W cx f x a:=by
 induction xs with
 |nil=>
  intro B fr _
  cases B with
  |nil=>show(store W cx fr x a).bind some=store W cx fr x a;cases store W cx fr x a<;>rfl
  |cons=>
   refine(?_:(store W cx fr x a).bind (λ_=>none)=none)
   cases store W cx fr x a<;>rfl
 |cons y ys O=>
  intro B fr hx
  cases B with
  |nil=>
   refine(?_:(store W cx fr x a).bind (λ_=>none)=none)
   cases store W cx fr x a<;>rfl
  |cons b B=>
   have kJ:x≠y:=λz=>hx (z▸.head _)
   refine(?_:((store W cx fr x a).bind λf=>(store W cx f y b).bind λg=>kT W cx ys B g)=((store W cx fr y b).bind λg=>kT W cx ys B g).bind λf=>store W cx f x a)
   rw [<-CP,ad3 kJ,CP,CP]
   exact cq _ (funext λf=>O B f λz=>hx (.tail _ z))
theorem ad2(x:ar)(a:D)(xs:G ar):∀(B:G D) (fr:Fm),xs.length=B.length->kT W cx (xs++[x]) (B++[a]) fr=(kT W cx xs B fr).bind λf=>store W cx f x a:=by
 induction xs with
 |nil=>
  intro B fr h
  rw [wA.mp h.symm]
  refine(?_:(store W cx fr x a).bind some=store W cx fr x a)
  cases store W cx fr x a<;>rfl
 |cons y ys O=>
  intro B fr h
  cases B with
  |nil=>exact bP h (rV _)
  |cons b B=>
   refine(?_:((store W cx fr y b).bind λg=>kT W cx (ys++[x]) (B++[a]) g)=((store W cx fr y b).bind λg=>kT W cx ys B g).bind λf=>store W cx f x a)
   rw [CP]
   exact cq _ (funext λg=>O B g (lu h))
theorem ad1(xs:G ar):∀(B:G D) (fr:Fm),xs.Nodup->xs.length=B.length->kT W cx xs.reverse B.reverse fr=kT W cx xs B fr:=by
 induction xs with
 |nil=>exact λB fr _ h=>by rw [wA.mp h.symm];rfl
 |cons x xs O=>
  intro B fr nd h
  cases B with
  |nil=>exact bP h (rV _)
  |cons a B=>
   have h:=lu h
   rw [rP,rP,ad2 _ _ _ _ _ (by rw [ez,ez];exact h),O B fr (ic.mp nd).2 h]
   exact(ad0 xs B fr (ic.mp nd).1).symm
theorem aah(xs:G ar):∀(B:G D) (V:G aw) (fr cy:Fm) (s:aT) (o:MH),St c w J F C o s.heap->cH c w F C s.heap cx fr X->kT W cx xs B fr=some cy->aW c w F C s.heap B V->∀{Q:mX->aT->Prop} {au:aw->aT->Prop},
  (∀M tk,bh (eI cx X) C s.heap C M->St c w J F C o M->cH c w F C M cx cy X->Q () {s with heap:=M,toks:=tk})->bo (bK c w.w) Y (zN (xs.map λn=>Dw X n) V) Q au s:=by
 induction xs with
 |nil=>
  intro B V fr cy s o S az e y Q au q
  cases B with
  |nil=>
   rw [y.dW]
   exact bX (q s.heap s.toks (.refl ..) S (aM e▸az))
  |cons=>exact aB e
 |cons x xs O=>
  intro B V fr cy s o S az e y Q au q
  cases B with
  |nil=>exact aB e
  |cons m B=>
   refine ay (uj.mp (show(store W cx fr x m).bind (λfr=>kT W cx xs B fr)=some cy from e)) λfq e1 e=>?_
   obtain⟨v,gn,rfl,y1,y2⟩:=y.cj
   show bo _ _ (do xM gn (Dw X x v);zN (xs.map λn=>Dw X n) gn) Q au s
   refine aO (iP (wpAny_bindName (HK S az e1 y1 λh1 aZ aS S1 G1=>?_)))
   exact O B gn fq cy {s with heap:=h1,toks:=aZ} o S1 G1 e (y2.fx (λb hb=>lP az b (vJ b hb)) aS) λh2 bS bp S2 G2=>q h2 bS (aS.trans bp) S2 G2
end
end
section
variable{ag:Type}{Z:cU ag}{ae:ag->Prop}{c:a_}{w:WB}{Y:bG}{own F F' C ao:G aA}{s:aT}{J h M:aP}{o br:MH}{K:b8}{W:bQ}{mg mb:ar->aa aw}{n:H}{cx:Cx}{fr cy:Fm}{X:cK}{O:Ops ag}
theorem aeM(Zk:bZ Z ae)(T:Top c w K W J mg mb)(bl:fm ae c w J n O.ev)(aq:Ctx c w J n Y F C s o cx fr X)(hh:ae (asg Z W O cx t m fr o k))(x:VR c w F C s.heap m v)
  (q:∀ao M tk cy br,bh (eI cx X) C s.heap ao M->St c w J F ao br M->cH c w F ao M cx cy X->ae (k cy br)->Q () {s with heap:=M,toks:=tk}):bo (bK c w.w) Y (m9 t X v) Q au s:=by
 have plain:ae (Z.opt (pC W cx fr t m) λfr=>k fr o)->bo (bK c w.w) Y (m9 t X v) Q au s:=λhh=>by
  refine ay (gW Zk hh) λcy e1 bR=>?_
  exact wZ aq.room.1 aq.st aq.fr e1 x λM tk st S' G'=>q C M tk cy o st S' G' bR
 unfold asg at hh
 cases hv:qo t with
 |attr E a=>
  rw [hv] at hh
  refine bw (B7 hv) λp aI=>?_;subst aI
  rw [arm_assign_Attribute]
  refine aO (iP (bl Y F C s o cx E fr X _ aq hh _ _ λv1 bq h1 aZ aS p1=>?_))
  obtain⟨m1,bM,bR,S1,x1⟩:=p1
  have C1:=aq.next aS S1 aZ
  refine ay (gW Zk bR) λp e1 de=>?_
  refine aO (ju (aO (iP (acg (s:={s with heap:=h1,toks:=aZ}) (own:=[]) Zk T S1 e1 de x1 (x.step aS) _ _ λ_ bf h2 bS bp p2=>wpAny_release ?_))))
  obtain⟨dz,dX,S2⟩:=p2
  have C2:=C1.next bp S2 bS
  exact q bf h2 bS fr dz (aS.trans bp).any S2 C2.fr dX
 |item E i=>
  rw [hv] at hh
  refine bw (B7 hv) λp aI=>?_;subst aI
  rw [arm_assign_Subscript]
  refine aO (iP (bl Y F C s o cx E fr X _ aq hh _ _ λv1 bq h1 aZ aS p1=>?_))
  obtain⟨m1,bM,bR,S1,x1⟩:=p1
  have C1:=aq.next aS S1 aZ
  refine aO (iP (bl Y F bq _ bM cx i fr X _ C1 bR _ _ λv2 bf h2 bS bp p2=>?_))
  obtain⟨m2,dz,de,S2,x2⟩:=p2
  have C2:=C1.next bp S2 bS
  refine ay (gW Zk de) λpq e1 dX=>?_
  refine aO (ju (aO (iP (aci (s:={s with heap:=h2,toks:=bS}) (own:=[]) Zk S2 e1 dX (x1.step bp) x2 ((x.step aS).step bp) _ _ λ_ dY h3 ey dp p3=>wpAny_release ?_))))
  obtain⟨hM,jY,S3⟩:=p3
  have C3:=C2.next dp S3 ey
  exact q dY h3 ey fr hM (aS.trans (bp.trans dp)).any S3 C3.fr jY
 |name _=>rw [hv] at hh;exact plain hh
 |tup _=>rw [hv] at hh;exact plain hh
 |bad=>rw [hv] at hh;exact plain hh
theorem NF(h:s8 e=true)(t:aa aX)(B:H)(X:cK):swapsWith e t B X=pure false:=by
 cases e<;>first|rfl|exact bz h
theorem O6(ho:Bl t=true)(h:∀ts k p V k' p',¬(t=.Tuple ts k p/\e=.Tuple V k' p')):vV [t] e X=pure none:=by
 unfold vV
 cases t with
 |Tuple ts k p=>
  cases e with
  |Tuple V k' p'=>exact bP ⟨rfl,rfl⟩ (h ts k p V k' p')
  |_=>rfl
 |List ts p=>exact bz ho
 |_=>rfl
theorem Sz(Zk:bZ Z ae)(T:Top c w K W J mg mb)(bl:fm ae c w J n O.ev)(aq:Ctx c w J n Y F C s o cx fr X)(I:(s8 e&&Bl t&&Bk t e)=true)(hh:ae (O.ev cx e fr o λv o=>asg Z W O cx t v fr o λfr o=>k .next fr o)):
  bc c w Y (eI cx X) C s (exec (.Assign [t] e pos) X) (PF ae c w J F cx X k):=by
 refine xA (aN.mp I) λI c3=>?_
 refine xA (aN.mp I) λc1 c2=>?_
 intro Q au q
 rw [exec_Assign_arm]
 refine aO (ju ?_)
 have hs:swapsWithSole [t] e pos.line X=pure false:=NF c1 _ _ _
 rw [hs]
 refine aO (bX ?_)
 rw [bk fY]
 refine aO (bl Y F C s o cx e fr X _ aq hh _ _ λv1 bq h1 aZ aS p1=>?_)
 obtain⟨m1,bM,bR,S1,x1⟩:=p1
 have C1:=aq.next aS S1 aZ
 have ht:(wX [t] X).map (·.2)=[m9 t X]:=by cases t<;>first|rfl|exact bz c2
 have plain:vV [t] e X=pure none->bo (bK c w.w) Y (do assignStores X v1 (<-vV [t] e X) ((wX [t] X).map (·.2))) Q au {s with heap:=h1,toks:=aZ}:=by
  intro hw
  rw [hw,ht]
  refine aO (bX ?_)
  show bo (bK c w.w) Y (do m9 t X v1;pure .next) Q au _
  exact aO (aeM (s:={s with heap:=h1,toks:=aZ}) Zk T bl C1 bR x1 λbf h2 bS kE dz bp S2 G2 de=>bX (q _ bf h2 bS (aS.any.trans bp) ⟨.next,kE,dz,de,S2,G2,rfl⟩))
 by_cases hp:∃ts k p V k' p',t=.Tuple ts k p/\e=.Tuple V k' p'
 .obtain⟨ts,k1,p,V,k',p',rfl,rfl⟩:=hp
  rcases aa4 (X:=X) c3 with hw|⟨names,hw,hl,WM,f,hf,hn⟩
  .exact plain hw
  .rw [hw]
   refine aO (bX ?_)
   show bo (bK c w.w) Y (do rule "assign.swapped-stores";let ft <-unpackItems v1 names.length none;zN (names.reverse.map λn=>Dw X n) ft.reverse;pure .next) Q au _
   refine aO (yU ?_)
   have WX:ae (Z.opt (pC W cx fr (.Tuple ts k1 p) m1) λfr=>k .next fr bM):=bR
   refine ay (gW Zk WX) λcy e1 de=>?_
   cases m1 with
   |tup B=>
    have e2:Mine.Internal.storeAll W cx ts B fr=some cy:=e1
    obtain⟨a,ws,n',rfl,sf,g,y⟩:=x1.gj
    refine xA (OT e2) λAy _=>?_
    rw [adZ hf (by rw [hn];exact hl),hn] at e2
    have Mg:=y.length
    rw [hX] at Mg
    have lD:names.length=ws.size:=by rw [hl,Ay,Mg]
    rw [lD]
    refine aO (unpackItems_tuple (s:={s with heap:=h1,toks:=aZ}) aq.room.1 ⟨_,g,rfl,n',rfl⟩ λh2 oE=>?_)
    have hk:∀b E,h1.get? b=some E->h2.get? b=some E:=λb E e=>oE b E (qQ (hV _) e) e
    refine xA (S1.grow hk) λbp S2=>?_
    have C2:=C1.next bp S2 aZ
    refine aO (aah names.reverse B.reverse ws.toList.reverse fr cy {s with heap:=h2,toks:=aZ} bM S2 C2.fr (by rw [ad1 names B fr (UJ WM) (by rw [hl,Ay])];exact e2) (y.step bp).reverse λh3 ey dp S3 G3=>?_)
    exact bX (q _ bq h3 ey ((aS.any.trans bp.any).trans dp) ⟨.next,cy,bM,de,S3,G3,rfl⟩)
   |_=>exact aB e1
 .exact plain (O6 c2 λts k p V k' p' z=>hp ⟨ts,k,p,V,k',p',z⟩)
end
noncomputable def wm{ag:Type}(ae:ag->Prop)(c:a_)(w:WB)(J:aP)(n:H)(fl:Cx->aX->It->G en->Fm->MH->(eh->Fm->MH->ag)->ag):Prop:=
 ∀(Y:bG) (F k9 C own:G aA) (h0:aP) (s:aT) (o:MH) (cx:Cx) (t:aX) (it:It) (eF:aw) (b:G en) (fr:Fm) (X:cK) (k:eh->Fm->MH->ag) (R':Result->aT->Prop),Ctx c w J n Y (own++F) C s o cx fr X->(∀b∈own,b∉F)->(∀b∈ownOf X,b∈F)->
  fO c w (own++F) C s.heap it eF own->bh (own++eI cx X) k9 h0 C s.heap->(∀b∈own,h0.get? b=none)->ae (fl cx t it b fr o k)->
  (∀f ao M tk,bh (eI cx X) k9 h0 ao M->PF ae c w J F cx X k f ao M->R' (.ok f) {s with heap:=M,toks:=tk})->lB (bK c w.w) Y (.forLoop t eF b [] X) R' s
noncomputable def wO{ag:Type}(ae:ag->Prop)(c:a_)(w:WB)(J:aP)(n:H)(wl:Cx->aX->G en->Fm->MH->(eh->Fm->MH->ag)->ag):Prop:=
 ∀(Y:bG) (F C:G aA) (s:aT) (o:MH) (cx:Cx) (t:aX) (b:G en) (fr:Fm) (X:cK) (k:eh->Fm->MH->ag) (R':Result->aT->Prop),Ctx c w J n Y F C s o cx fr X->ae (wl cx t b fr o k)->
  (∀f ao M tk,bh (eI cx X) C s.heap ao M->PF ae c w J F cx X k f ao M->R' (.ok f) {s with heap:=M,toks:=tk})->lB (bK c w.w) Y (.whileLoop t b [] X) R' s
section
variable{ag:Type}{Z:cU ag}{ae:ag->Prop}{c:a_}{w:WB}{Y:bG}{own F F' C ao:G aA}{s:aT}{J h M:aP}{o br:MH}{K:b8}{W:bQ}{mg mb:ar->aa aw}{n:H}{cx:Cx}{fr cy:Fm}{X:cK}{O:Ops ag}
theorem cH.fx(hF:∀b∈own,b∈F)(st:bh own C h ao M)(hk:∀b∈ownOf X,∀E,h.get? b=some E->M.get? b=some E)(az:cH c w F C h cx fr X):cH c w F ao M cx fr X:=
 az.gen hk az.lP λ_ _ v=>v.fx hF st
theorem NZ(h:GJ it t=true):Ib it t:=by
 cases it with
 |zip a b=>
  cases t with
  |Tuple R k p=>exact⟨R,k,p,rfl⟩
  |_=>exact bz h
 |_=>trivial
theorem bh.leave(st:bh (own++jq) k9 h0 C h1)(hn:∀b∈own,h0.get? b=none)(hk:∀b E,b∉own->h1.get? b=some E->h2.get? b=some E):bh jq k9 h0 C h2:=by
 refine⟨st.pre,λb E e n m=>?_,λb E e n=>?_⟩
 .have nb:b∉own:=λq=>by rw [hn b q] at e;exact aB e
  exact hk b E nb (st.keep b E e n λq=>(dI.mp q).elim nb m)
 .have nb:b∉own:=λq=>by rw [hn b q] at e;exact aB e
  obtain⟨⟨o',e'⟩,I⟩:=st.out b E e n
  exact⟨⟨o',hk b o' nb e'⟩,I⟩
theorem wk.drop(hk:∀b E,b∉own->h.get? b=some E->M.get? b=some E)(x:wk c w (own++F) C h g f):wk c w F C M g f:=by
 cases g with
 |next=>exact x
 |ret m=>obtain⟨v,e,y⟩:=x;exact⟨v,e,y.drop hk⟩
theorem VX(Zk:bZ Z ae)(T:Top c w K W J mg mb)(ZN:zE c w J)(ZS:zF c w J)(bl:lZ ae c w J n O.ex)(fF:wm ae c w J n O.forL):wm ae c w J (n+1) (Et Z W O):=by
 intro Y F k9 C own h0 s o cx t it eF b fr X k R' aq hd hF x oV qS hh done
 have aq:=aq.lower
 have nx:∀b∈own,b∈own++F:=λb hb=>iR _ hb
 have hT:∀b∈eI cx X,b∈F:=λb hb=>hF b (vJ b hb)
 refine zX ?_
 show bo _ _ ((forTurn t eF b [] X).onRaise (λx=>do Bd x X;Ic x)) _ _ s
 refine IF ?_
 simp only [forTurn]
 unfold Et at hh
 cases hi:e_ o it with
 |none=>rw [hi] at hh;exact(Zk.fail hh).elim
 |some y=>
  rw [hi] at hh
  dsimp only at hh
  cases y with
  |none=>
   refine aO (ju (aO (IG (x.stop ZS aq.room.1 aq.st nx hi λM hk=>?_))))
   dsimp only
   refine bX ⟨rfl,codeAny_block (ID ?_)⟩
   exact done .next C M s.toks (oV.leave qS hk) ⟨.next,fr,o,hh,aq.st.drop hk hd,aq.fr.drop hk hd hF,rfl⟩
  |some q=>
   obtain⟨m,dJ⟩:=q
   refine xA (iU (x:=Z.fail) Zk hh) λI hh=>?_
   refine ay (gW Zk hh) λfq e1 bR=>?_
   refine aO (ju (aO (IG (qq (x.next ZN aq.st nx (NZ I) hi (Q':=λu kU=>∃M tk,kU={s with heap:=M,toks:=tk}/\bh own C s.heap C M/\St c w J (own++F) C o M/\VR c w (own++F) C M m u/\fO c w (own++F) C M dJ eF own) (au:=λ_ _=>dP) (E':=λ_ _=>dP) λu M tk a1 a2 a3 a4=>⟨M,tk,rfl,a1,a2,a3,a4⟩) (λr fX z=>?_) λ_ _ z=>z.elim))))
   refine ay z ?_;clear z;intro u aI z;subst aI
   dsimp only
   refine aO (qq z (λ_ kU z2=>?_) λ_ _ z=>z.elim)
   refine eK z2 λh1 aZ aE aS S1 bB=>xA bB λxu x1=>?_;rw [aE]
   have C1:cH c w (own++F) C h1 cx fr X:=aq.fr.fx nx aS λb hb E e=>aS.keep b E e (aq.st.cI b (fC _ (hF b hb))).2.1 λz=>hd b z (hF b hb)
   refine aO (wZ (s:={s with heap:=h1,toks:=aZ}) aq.room.1 S1 C1 e1 xu λh2 bS bp S2 G2=>?_)
   have x2:fO c w (own++F) C h2 dJ eF own:=x1.step (λb hb=>fC _ (hT b hb)) bp λb hb E e=>bp.keep b E e (S1.cI b (nx b hb)).2.1 λz=>hd b hb (hT b z)
   refine aO (ku bl b C {s with heap:=h2,toks:=bS} o fq _ ⟨aq.room,S2,G2⟩ bR _ _ λf dY h3 ey dp p3=>?_)
   refine PF.el p3 λg pM hM dX S3 G3 fl=>?_
   have x3:fO c w (own++F) dY h3 dJ eF own:=x2.step (λb hb=>fC _ (hT b hb)) dp λb hb E e=>dp.keep b E e (S2.cI b (nx b hb)).2.1 λz=>hd b hb (hT b z)
   have m1:∀{N6:G aA} {bq bf:G aA} {g1 g2:aP},bh N6 bq g1 bf g2->(∀b∈N6,b∈own++eI cx X)->bh (own++eI cx X) bq g1 bf g2:=λst hs=>st.more λb hb=>.inl (hs b hb)
   have ON:bh (own++eI cx X) k9 h0 dY h3:=((oV.trans (m1 aS λb hb=>iR _ hb)).trans (m1 bp λb hb=>fC _ hb)).trans (m1 dp λb hb=>fC _ hb)
   cases g with
   |next=>
    cases fl
    refine bX ⟨rfl,?_⟩
    exact fF Y F k9 dY own h0 {s with heap:=h3,toks:=ey} hM cx t dJ eF b pM X k R' ⟨aq.room,S3,G3⟩ hd hF x3 ON qS dX done
   |ret mv=>
    refine ay fl ?_;clear fl;intro v aI xv;rw [aI]
    refine bX ?_
    exact done (.ret v) dY h3 ey (ON.leave qS λb E _ e=>e) ⟨.ret mv,pM,hM,dX,S3.drop (λb E _ e=>e) hd,G3.drop (λb E _ e=>e) hd hF,v,rfl,xv.drop λb E _ e=>e⟩
theorem aft(Zk:bZ Z ae)(bl:lZ ae c w J n O.ex)(fF:mW ae c w J n O.fh)(L:wO ae c w J n O.iO):wO ae c w J (n+1) (PQ O):=by
 intro Y F C s o cx t b fr X k R' aq hh done
 have aq:=aq.lower
 refine zX ?_
 have WV:ae (O.fh cx t fr o λI o=>@bN (λ_=>ag) (k .next fr o) (iy O cx b fr o λf fr o=>@eh.rec (λ_=>ag) (O.iO cx t b fr o k) (λv=>k (.ret v) fr o) f) I):=hh
 show bo _ _ ((do
  if <-isTrue t X (eval t X) then
   match <-iH b X with
   |.next|.cont=>again (.whileLoop t b [] X)
   |.brk=>pure (.done .next)
   |.ret v=>pure (.done (.ret v))
  else return .done (<-iH [] X):iT PySem.Fin).onRaise (λx=>do Bd x X;Ic x)) _ _ s
 refine IF ?_
 refine aO (fF Y F C s o cx t fr X _ aq WV _ _ λI bq h1 aZ aS p1=>?_)
 refine PB.el p1 λbM bR S1=>?_
 have C1:=aq.next aS S1 aZ
 cases I with
 |false=>
  rw [bk fY]
  refine aO (ID (bX ?_))
  exact done .next bq h1 aZ aS.any ⟨.next,fr,bM,bR,S1,C1.fr,rfl⟩
 |true=>
  rw [bT rfl]
  refine aO (ku bl b bq {s with heap:=h1,toks:=aZ} bM fr _ C1 bR _ _ λf bf h2 bS bp p2=>?_)
  refine PF.el p2 λg kE dz de S2 G2 fl=>?_
  cases g with
  |next=>
   cases fl
   refine bX ⟨rfl,?_⟩
   exact L Y F bf {s with heap:=h2,toks:=bS} dz cx t b kE X k R' ⟨aq.room,S2,G2⟩ de λf ao M tk st p=>done f ao M tk ((aS.any.trans bp).trans st) p
  |ret mv=>
   refine ay fl ?_;clear fl;intro v aI xv;rw [aI]
   refine bX ?_
   exact done (.ret v) bf h2 bS (aS.any.trans bp) ⟨.ret mv,kE,dz,de,S2,G2,v,rfl,xv⟩
theorem Es(h:∀R k p,e≠.Set R k p)(x:aw):VU e X x=pure x:=by
 cases e<;>first|rfl|exact bP rfl (h _ _ _)
end
noncomputable def DL(c:a_)(w:WB)(F C:G aA)(h:aP)(bj:aA)(b_:G D):Prop:=∃V n,h.get? bj=some (fT V n)/\aW c w F C h b_ V.toList.reverse
noncomputable def qw{ag:Type}(ae:ag->Prop)(c:a_)(w:WB)(J:aP)(n:H)(cl:Cx->aX->aX->G aX->G rE->It->G D->Fm->MH->(G D->Fm->MH->ag)->ag):Prop:=
 ∀(Y:bG) (F k9 C own:G aA) (h0:aP) (s:aT) (o:MH) (cx:Cx) (cQ t i:aX) (di:G aX) (gN gs:G rE) (dH:Scope) (pos:Pos) (kq:H) (it:It) (eF:aw) (bj:aA) (b_:G D) (fr:Fm) (X:cK) (k:G D->Fm->MH->ag) (R':Result->aT->Prop),
  gN[kq]?=some ⟨t,i,di,0⟩->gN.drop (kq+1)=gs->Ctx c w J n Y (own++F) C s o cx fr X->(∀b∈own,b∉F)->(∀b∈ownOf X,b∈F)->bj∈F->bj∉ownOf X->
  fO c w (own++F) C s.heap it eF own->DL c w (own++F) C s.heap bj b_->bh (own++bj::eI cx X) k9 h0 C s.heap->(∀b∈own,h0.get? b=none)->ae (cl cx cQ t di gs it b_ fr o k)->
  (∀ao M tk JX cy br,bh (bj::eI cx X) k9 h0 ao M->St c w J F ao br M->cH c w F ao M cx cy X->DL c w F ao M bj JX->ae (k JX cy br)->R' (.ok .next) {s with heap:=M,toks:=tk})->
  lB (bK c w.w) Y (.compLoop (.ListComp cQ gN dH pos) kq eF (.ref bj) X) R' s
section
variable{ag:Type}{Z:cU ag}{ae:ag->Prop}{c:a_}{w:WB}{Y:bG}{own F F' C ao:G aA}{s:aT}{J h M:aP}{o br:MH}{K:b8}{W:bQ}{mg mb:ar->aa aw}{n:H}{cx:Cx}{fr cy:Fm}{X:cK}{O:Ops ag}
theorem DL.fx(hF:∀b∈own,b∈F)(st:bh own C h ao M)(hk:∀E,h.get? bj=some E->M.get? bj=some E)(x:DL c w F C h bj b_):DL c w F ao M bj b_:=by
 refine jv x λV n g y=>?_
 exact⟨V,n,hk _ g,y.fx hF st⟩
theorem aW.Um(hk:∀b E,b∉own->h.get? b=some E->M.get? b=some E)(x:aW c w (own++F) C h m v):aW c w F C M m v:=x.mono (D5 hk) (.inr λ_ _ e=>e)
theorem DL.drop(hk:∀b E,b∉own->h.get? b=some E->M.get? b=some E)(hD:bj∉own)(x:DL c w (own++F) C h bj b_):DL c w F C M bj b_:=by
 refine jv x λV n g y=>?_
 exact⟨V,n,hk _ _ hD g,aW.Um hk y⟩
theorem DL.enter(f:jx J h M C new)(x:DL c w F C h bj b_):DL c w (new++F) C M bj b_:=by
 refine jv x λV n g y=>?_
 exact⟨V,n,f.keep _ _ g,y.enter f⟩
theorem XI(fF:mW ae c w J n O.fh):∀(di:G aX) (C:G aA) (s:aT) (o:MH) (k:ah->MH->ag),Ctx c w J n Y F C s o cx fr X->ae (v8 O true cx di fr o k)->
  bc c w Y [] C s (sE di true λI r=>if r=true then do let ok <-RP I X (eval I X);pure (rH ok) else pure (rH r)) (PB ae c w J F k):=by
 intro gu
 induction gu with
 |nil=>
  intro C s o k aq e
  exact λQ au q=>by
   rw [wz]
   exact bX (q true C s.heap s.toks (.refl ..) ⟨o,e,aq.st⟩)
 |cons I di XJ=>
  intro C s o k aq e
  intro Q au q
  have e':ae (O.fh cx I fr o λb o=>@bN (λ_=>ag) (v8 O true cx di fr o k) (k b o) (qt true b)):=e
  rw [o_]
  have skip:∀(B:G aX) (s:aT),Q false s->bo (bK c w.w) Y (sE B false λI r=>if r=true then do let ok <-RP I X (eval I X);pure (rH ok) else pure (rH r)) Q au s:=by
   intro B
   induction B with
   |nil=>intro s h;rw [wz];exact bX h
   |cons a B fQ=>
    intro s h
    rw [o_,bk fY]
    exact aO (bX (fQ s h))
  rw [bT rfl]
  refine aO (aO (fF Y F C s o cx I fr X _ aq e' _ _ λb bq h1 aZ aS p1=>bX ?_))
  obtain⟨bM,bR,S1⟩:=p1
  cases b with
  |false=>exact skip di _ (q false bq h1 aZ aS ⟨bM,bR,S1⟩)
  |true=>exact XJ bq {s with heap:=h1,toks:=aZ} bM k (aq.next aS S1 aZ) bR _ _ λb bf h2 bS bp p2=>q b bf h2 bS (aS.trans bp) p2
theorem fO.self(x:fO c w F C s.heap it v own)(q:Q v s):bo (bK c w.w) Y (oQ v) Q au s:=by
 have si:∀{it:It},(∃i,v=.ref i/\own=[i]/\SI c w F C s.heap it i)->bo (bK c w.w) Y (oQ v) Q au s:=by
  rintro it ⟨i,rfl,rfl,sx⟩
  cases it with
  |lst j k=>obtain⟨a,e,g⟩:=sx;exact afy g q
  |tup B=>obtain⟨t,V,n,j,sf,g,qi,y⟩:=sx;exact wpAny_pyIter_tupleiter qi q
  |bz B=>obtain⟨t,V,n,j,sf,g,qi,y⟩:=sx;exact afy qi q
  |_=>exact sx.elim
 cases it with
 |range k n=>
  refine eK x ?_;clear x;intro i left aE bU g hl;subst aE;skip
  exact wpAny_pyIter_rangeiter g q
 |zip a b=>
  obtain⟨z,TI,TO,i1,i2,x,y,rfl,rfl,nd,g1,g2,g3,s1,s2⟩:=x
  exact wpAny_pyIter_zip g1 q
 |lst i k=>exact si x
 |tup B=>exact si x
 |bz B=>exact si x
theorem Ky(hg:gN[kq]?=some ⟨t,i,di,0⟩)
  (h0:lB (bK c w.w) Y (.compLoop (.ListComp cQ gN dH pos) kq it b_ X) R' s) (h:∀(Q:aw->aT->Prop) (au:aw->aT->Prop),Q it s->bo (bK c w.w) Y (oQ it) Q au s):
  lB (bK c w.w) Y (.compStart (.ListComp cQ gN dH pos) kq it b_ X) R' s:=by
 refine zX ?_
 show bo _ _ ((compStart (.ListComp cQ gN dH pos) kq it b_ X).onRaise (λx=>do Bd x X;tH theWindowsPlace)) _ _ s
 refine wpAny_notedAt ?_
 unfold compStart
 have hc:clausesOf (.ListComp cQ gN dH pos)=gN:=rfl
 rw [hc,hg]
 refine(?_:bo _ _ (ask>>=_) _ _ s)
 refine aO (wpAny_askSetting (wpAny_ite ?_))
 split
 .first
   |exact aO (bX (bX (Cd rfl h0)))
   |exact bX (Cd rfl h0)
 .refine aO (yU ?_)
  refine(?_:bo _ _ (tH i.pos>>=_) _ _ s)
  exact aO (ju (aO (h _ _ (bX (Cd rfl h0)))))
end
section
variable{ag:Type}{Z:cU ag}{ae:ag->Prop}{c:a_}{w:WB}{Y:bG}{own F F' C ao:G aA}{s:aT}{J h M:aP}{o br:MH}{K:b8}{W:bQ}{mg mb:ar->aa aw}{n:H}{cx:Cx}{fr cy:Fm}{X:cK}{O:Ops ag}
theorem bh.sub(st:bh own C h ao M)(hs:∀b∈own,b∈jq):bh jq C h ao M:=st.more λb hb=>.inl (hs b hb)
theorem fO.past(S:St c w J F C o h)(hF:∀b∈own,b∈F)(EH:∀b∈jq,b∈F)(ne:∀b∈own,b∉jq)(st:bh jq C h ao M)(x:fO c w F C h it v own):fO c w F ao M it v own:=x.step EH st λb hb E e=>st.keep b E e (S.cI b (hF b hb)).2.1 (ne b hb)
theorem DL.past(S:St c w J F C o h)(hD:bj∈F)(EH:∀b∈jq,b∈F)(ne:bj∉jq)(st:bh jq C h ao M)(x:DL c w F C h bj b_):DL c w F ao M bj b_:=x.fx EH st λE e=>st.keep bj E e (S.cI bj hD).2.1 ne
theorem TP(Zk:bZ Z ae)(T:Top c w K W J mg mb)(ZN:zE c w J)(ZS:zF c w J)(ZB:pw ae c w J)(bl:fm ae c w J n O.ev)(fF:mW ae c w J n O.fh)(L:qw ae c w J n O.cmp):qw ae c w J (n+1) (DK Z W O):=by
 intro Y F k9 C own h0 s o cx cQ t i di gN gs dH pos kq it eF bj b_ fr X k R' hg Av aq hd hF hD xC x dl oV qS hh done
 have aq:=aq.lower
 have nx:∀b∈own,b∈own++F:=λb hb=>iR _ hb
 have LY:bj∉own:=λz=>hd bj z hD
 have sG:bj∈own++F:=fC _ hD
 have hT:∀b∈eI cx X,b∈F:=λb hb=>hF b (vJ b hb)
 have Wl:bj∉eI cx X:=λz=>xC (vJ bj z)
 have LW:∀b∈bj::eI cx X,b∈F:=λb hb=>(bY.mp hb).elim (λz=>z▸hD) (hT b)
 refine zX ?_
 show bo _ _ ((compTurn (.ListComp cQ gN dH pos) kq eF (.ref bj) X).onRaise (λx=>do Bd x X;Ic x)) _ _ s
 refine IF ?_
 refine gQ λQQ EE hQ _=>?_
 unfold compTurn
 dsimp only
 rw [hg]
 dsimp only
 rw [bk (by decide)]
 unfold DK at hh
 refine aO (ju (gB λff hf=>?_))
 cases hi:e_ o it with
 |none=>rw [hi] at hh;exact(Zk.fail hh).elim
 |some y=>
  rw [hi] at hh
  dsimp only at hh
  cases y with
  |none=>
   refine x.stop ZS aq.room.1 aq.st nx hi λM hk=>hf _ _ _ _ _ (bX (hQ _ _ ?_))
   exact done C M s.toks b_ fr o (oV.leave qS hk) (aq.st.drop hk hd) (aq.fr.drop hk hd hF) (dl.drop hk LY) hh
  |some q=>
   obtain⟨m,dJ⟩:=q
   refine xA (iU (x:=Z.fail) Zk hh) λI hh=>?_
   refine ay (gW Zk hh) λfq e1 bR=>?_
   refine qq (x.next ZN aq.st nx (NZ I) hi (Q':=λu kU=>∃M tk,kU={s with heap:=M,toks:=tk}/\bh own C s.heap C M/\St c w J (own++F) C o M/\VR c w (own++F) C M m u/\fO c w (own++F) C M dJ eF own) (au:=λ_ _=>dP) (E':=λ_ _=>dP) λu M tk a1 a2 a3 a4=>⟨M,tk,rfl,a1,a2,a3,a4⟩) (λr fX z=>hf _ _ _ _ _ ?_) λ_ _ z=>z.elim
   refine ay z ?_;clear z;intro u aI z;subst aI
   refine aO (qq z (λ_ kU z2=>?_) λ_ _ z=>z.elim)
   refine eK z2 λh1 aZ aE aS S1 bB=>xA bB λxu x1=>?_;subst aE
   have next:∀ao M tk b_ fr o,bh (bj::eI cx X) C h1 ao M->St c w J (own++F) ao o M->cH c w (own++F) ao M cx fr X->DL c w (own++F) ao M bj b_->ae (O.cmp cx cQ t di gs dJ b_ fr o k)->lB (bK c w.w) Y (.compLoop (.ListComp cQ gN dH pos) kq eF (.ref bj) X) R' {s with heap:=M,toks:=tk}:=λao M tk b_ fr o st S az dl hh=>
    L Y F k9 ao own h0 {s with heap:=M,toks:=tk} o cx cQ t i di gN gs dH pos kq dJ eF bj b_ fr X k R' hg Av ⟨aq.room,S,az⟩ hd hF hD xC (x1.past S1 nx (λb hb=>fC _ (LW b hb)) (λb hb q=>hd b hb (LW b q)) st) dl ((oV.trans (aS.sub λb hb=>iR _ hb)).trans (st.sub λb hb=>fC _ hb)) qS hh done
   clear z z2
   have C1:cH c w (own++F) C h1 cx fr X:=aq.fr.fx nx aS λb hb E e=>aS.keep b E e (aq.st.cI b (fC _ (hF b hb))).2.1 λz=>hd b z (hF b hb)
   have Uh:=dl.past aq.st sG nx LY aS
   refine aO (wZ (s:={s with heap:=h1,toks:=aZ}) aq.room.1 S1 C1 e1 xu λh2 bS bp S2 G2=>?_)
   have C2:Ctx c w J n Y (own++F) C {s with heap:=h2,toks:=bS} o cx fq X:=⟨aq.room,S2,G2⟩
   refine aO (XI fF di C {s with heap:=h2,toks:=bS} o _ C2 bR _ _ λok dY h3 ey dp p3=>?_)
   refine PB.el p3 λhM dX S3=>?_
   have C3:=C2.next dp S3 ey
   have HH:=bh.sub (jq:=bj::eI cx X) (bp.trans (bh.any dp)) λb hb=>.tail _ hb
   have DY:=Uh.past S1 sG (λb hb=>fC _ (hT b hb)) Wl (bp.trans (bh.any dp))
   cases ok with
   |false=>
    rw [bk fY]
    exact bX (hQ _ _ ⟨rfl,next _ _ _ _ _ _ HH S3 C3.fr DY dX⟩)
   |true=>
    rw [bT rfl]
    have jY:ae (DJ Z W O cx cQ gs b_ fq hM λb_ fr o=>O.cmp cx cQ t di gs dJ b_ fr o k):=dX
    unfold DJ at jY
    cases gs with
    |nil=>
     have xF:gN[kq+1]?=none:=drop_nil Av
     rw [xF]
     dsimp only at jY⊢
     refine aO (aO (bl Y (own++F) dY {s with heap:=h3,toks:=ey} hM cx cQ fq X _ C3 jY _ _ λv4 gC h4 jt fc p4=>?_))
     refine PV.el p4 λm4 p7 pO S4 x4=>?_
     refine xA (iU (x:=Z.fail) Zk pO) λc5 pO=>?_
     have c5:=j4 c5
     have C4:=C3.next fc S4 jt
     refine jv (DY.past S3 sG ta eP fc) λV nn g y=>?_
     have hl:=y.length
     rw [ez,hX] at hl
     refine aO (afx ⟨nn,g⟩ (λh5 hp hs=>?_) (jk (by lia)))
     refine bw hp λn5 g5=>?_
     refine xA (S4.turn sG hs ⟨_,g5⟩) λkR S5=>?_
     have EI:∀b∈[bj],b∈own++F:=λb hb=>by rw [cA.mp hb];exact sG
     refine bX (bX (hQ _ _ ⟨rfl,next _ _ _ _ _ _ ((HH.trans (bh.any fc)).trans (kR.sub λb hb=>by rw [cA.mp hb];exact .head _)) S5 (C4.fr.fx EI kR λb hb E e=>(hs.2 b λz=>xC (z▸hb)).trans e) ⟨_,n5,g5,by rw [IW,zm];exact .cons (x4.fx EI kR) (y.fx EI kR)⟩ pO⟩))
    |cons g' EC=>
     obtain⟨t2,i2,Fb,a2⟩:=g'
     refine xA (drop_cons Av) λxF WU=>?_
     rw [xF]
     dsimp only at jY⊢
     cases ca:eqZ a2 0&&mE i2 with
     |false=>rw [ca] at jY;exact(Zk.fail jY).elim
     |true=>
      rw [ca] at jY
      dsimp only at jY
      refine xA (aN.mp ca) λDA Kf=>?_
      have DA:=(jC _ _).mp DA
      subst DA
      have WR:∀x,VU i2 X x=pure x:=λx=>Es (λR k p z=>by rw [z] at Kf;exact bz Kf) x
      refine aO (qq (Fw (au:=λ_ _=>dP) (E':=λ_ _=>dP) Zk T ZB bl C3 jY (Q:=λAV kU=>∃gC h4 jt,kU={s with heap:=h4,toks:=jt}/\wh ae c w J (own++F) dY h3 (λu_ o=>O.cmp cx cQ t2 Fb EC u_ b_ fq o λb_ fr o=>O.cmp cx cQ t di (⟨t2,i2,Fb,0⟩::EC) dJ b_ fr o k) AV gC h4) λAV gC h4 jt b=>⟨gC,h4,jt,rfl,b⟩) (λxv fX z=>?_) λ_ _ z=>z.elim)
      refine aO (ju ?_)
      rw [bk (by decide),WR]
      refine aO (bX ?_)
      rw [bk (by decide)]
      refine aO (iP (qq z (λAV kU z2=>?_) λ_ _ z=>z.elim))
      obtain⟨gC,h4,jt,rfl,u_,nJ,p7,Wj,fc,S4,f4,Nw,x4,pO⟩:=z2
      have C4:cH c w (own++F) gC Wj cx fq X:=C3.fr.step fc λa ha=>(S3.cI a ha).2.1
      have V4:∀b∈nJ,h3.get? b=none:=λb hb=>by
       cases e:h3.get? b with
       |none=>rfl
       |some E=>
        have:=fc.keep b E e (λz=>(S4.lO (f4.new b hb).1).1 (fc.pre.sublist.subset z)) λz=>nomatch z
        rw [(f4.new b hb).1] at this;exact aB this
      refine aO (wpAny_runOwn (Ky xF ?_ λQ au q=>x4.self q))
      refine L Y (own++F) dY gC nJ h3 {s with heap:=h4,toks:=jt} p7 cx cQ t2 i2 Fb gN EC dH pos (kq+1) u_ AV bj b_ fq X _ _ xF WU ⟨aq.room,S4.enter f4,C4.enter f4⟩ (λb hb=>(S4.lO (f4.new b hb).1).2.1) (λb hb=>fC _ (hF b hb)) sG xC x4 ((DY.past S3 sG ta eP fc).enter f4) ((fc.any.trans (bh.of_keeps f4.keep).any).sub λb hb=>hb) V4 pO
       λCc h5 ag7 Sa Eu ZZ kR S5 G5 DZ ER=>bX (hQ _ _ ⟨rfl,next _ _ _ _ _ _ (HH.trans kR) S5 G5 DZ ER⟩)
end
section
variable{ag:Type}{Z:cU ag}{ae:ag->Prop}{c:a_}{w:WB}{Y:bG}{own F F' C ao:G aA}{s:aT}{J h M:aP}{o br:MH}{K:b8}{W:bQ}{mg mb:ar->aa aw}{n:H}{cx:Cx}{fr cy:Fm}{X:cK}{O:Ops ag}
theorem SI.mono(k:∀a E,h.get? a=some E->cM F C a->M.get? a=some E/\cM F' C a)(hi:∀E,h.get? i=some E->M.get? i=some E)(x:SI c w F C h it i):SI c w F' C M it i:=by
 cases it with
 |lst j k'=>
  refine ay x λa e g=>?_
  exact⟨a,e,g.at hi⟩
 |tup B=>
  refine wM.el x λt V n j sf g q y=>?_
  refine xA (k _ _ g sf) λg' j8=>?_
  exact⟨t,V,n,j,j8,g',(let⟨E,ho,r⟩:=q;⟨E,hi E ho,r⟩),y.mono k (.inr λ_ _ e=>e)⟩
 |bz B=>
  refine wK.el x λt V n j sf g q y=>?_
  refine xA (k _ _ g sf) λg' j8=>?_
  exact⟨t,V,n,j,j8,g',q.at hi,y.mono k (.inr λ_ _ e=>e)⟩
 |_=>exact x
theorem fO.mono(k:∀a E,h.get? a=some E->cM F C a->M.get? a=some E/\cM F' C a)(hk:∀b∈own,∀E,h.get? b=some E->M.get? b=some E)(x:fO c w F C h it v own):fO c w F' C M it v own:=by
 have si:∀{it:It},(∃i,v=.ref i/\own=[i]/\SI c w F C h it i)->∃i,v=.ref i/\own=[i]/\SI c w F' C M it i:=by
  rintro it ⟨i,rfl,rfl,sx⟩
  exact⟨i,rfl,rfl,SI.mono k (hk i (.head _)) sx⟩
 cases it with
 |range k' n=>
  refine eK x ?_;clear x;intro i left aE bU g hl;rw [aE];subst bU
  exact⟨i,left,rfl,rfl,hk i (.head _) _ g,hl⟩
 |zip a b=>
  obtain⟨z,TI,TO,i1,i2,x,y,rfl,rfl,nd,g1,g2,g3,s1,s2⟩:=x
  exact⟨z,TI,TO,i1,i2,x,y,rfl,rfl,nd,hk _ (by simp) _ g1,hk _ (by simp) _ g2,hk _ (by simp) _ g3,SI.mono k (hk _ (by simp)) s1,SI.mono k (hk _ (by simp)) s2⟩
 |lst i k'=>exact si x
 |tup B=>exact si x
 |bz B=>exact si x
theorem NU(h:tg sc (p::r)=true):(p.2=.local\/p.2=.globalImplicit\/(p.2=.free/\∃j,idxOf sc p.1 0=some (j,.cell)))/\g_ r p.1=none/\tg sc r=true:=by
 obtain⟨x,kd⟩:=p
 have M:(GK sc (x,kd)&&!(cJ (g_ r x))&&tg sc r)=true:=h
 refine xA (aN.mp M) λh1 h3=>?_
 refine xA (aN.mp h1) λh1 h2=>?_
 refine⟨?_,?_,h3⟩
 .cases kd with
  |«local»=>exact .inl rfl
  |globalImplicit=>exact .inr (.inl rfl)
  |free=>
   refine .inr (.inr ⟨rfl,?_⟩)
   dsimp only [GK] at h1⊢
   cases q:idxOf sc x 0 with
   |none=>rw [q] at h1;exact bz h1
   |some p=>
    obtain⟨j,k⟩:=p
    rw [q] at h1
    cases k<;>first|cases h1;done|exact⟨j,rfl⟩
  |_=>exact bz h1
 .dsimp only
  generalize q:g_ r x=ax at h2
  cases ax with
  |none=>rfl
  |some _=>exact bz h2
theorem NW(h:tg sc B=true):(B.map (·.1)).Nodup:=by
 induction B with
 |nil=>exact rO
 |cons p r O=>
  refine cf (NU h) λ_ h2 h3=>?_
  refine ic.mpr ⟨λz=>?_,O h3⟩
  refine ay (cF.mp z) λq hq e=>?_
  exact zc.mp (Sf h2) q hq (by rw [e];exact r7 _)
theorem NV(h:tg sc B=true):∀p∈B,p.2=.local\/p.2=.globalImplicit\/(p.2=.free/\∃j,idxOf sc p.1 0=some (j,.cell)):=by
 induction B with
 |nil=>exact λp hp=>nomatch hp
 |cons p r O=>
  refine cf (NU h) λh1 _ h3=>?_
  exact λq hq=>(bY.mp hq).elim (λz=>z▸h1) (O h3 q)
theorem TM{B:G (ar×dc)}:(∀p∈B,p.2=.free->∃I,X.cells.lookup p.1=some I)->∀(cs:G (ar×aA)),∃cl:G (ar×aA),(sE B cs (λ(p:ar×dc) (cs:G (ar×aA))=>if(p.2==rQ)=true then do let a <-cellOf X p.1;pure (rH ((p.1,a)::cs)) else pure (rH cs)):iT (G (ar×aA)))=pure cl/\
   (∀q∈cl,q∈cs\/(X.cells.lookup q.1=some q.2/\(q.1,rQ)∈B))/\(∀q∈cs,q∈cl)/\∀p∈B,p.2=.free->∃I,(p.1,I)∈cl/\X.cells.lookup p.1=some I:=by
 induction B with
 |nil=>exact λ_ cs=>⟨cs,wz,λq hq=>.inl hq,λq hq=>hq,λp hp=>nomatch hp⟩
 |cons p r O=>
  obtain⟨x,kd⟩:=p
  intro h cs
  have O:=O λp hp=>h p (.tail _ hp)
  rw [o_]
  by_cases hk:kd=.free
  .obtain rfl:=(hk).symm
   refine bw (h _ (.head _) rfl) λI hc=>?_
   refine iZ (O ((x,I)::cs)) λcl e1 e2 e3 e4=>?_
   refine⟨cl,?_,λq hq=>?_,λq hq=>e3 q (.tail _ hq),λp hp hf=>?_⟩
   .rw [bT (r7 _),show cellOf X (x,rQ).1=pure I by unfold cellOf;rw [hc],vL,vL]
    exact e1
   .refine(e2 q hq).elim (λe2=>(bY.mp e2).elim (λz=>.inr (z▸⟨hc,.head _⟩)) .inl) λe2=>.inr ⟨e2.1,.tail _ e2.2⟩
   .exact(bY.mp hp).elim (λz=>z▸⟨I,e3 _ (.head _),hc⟩) λhp=>e4 p hp hf
  .refine iZ (O cs) λcl e1 e2 e3 e4=>?_
   refine⟨cl,?_,λq hq=>(e2 q hq).imp_right λe2=>⟨e2.1,.tail _ e2.2⟩,e3,λp hp hf=>(bY.mp hp).elim (λz=>bP ((cq (·.2) z).symm.trans hf) hk) λhp=>e4 p hp hf⟩
   rw [bk (λz=>hk (pI z)),vL]
   exact e1
theorem cH.mono(k:∀a E,h.get? a=some E->cM F C a->M.get? a=some E/\cM F' ao a)(pl:∀(i:H) (a:aA),C[i]?=some a->ao[i]?=some a)(gF:∀b∈ownOf X,b∈F'/\∀E,h.get? b=some E->M.get? b=some E)(az:cH c w F C h cx fr X):cH c w F' ao M cx fr X:=
 az.gen (λb hb=>(gF b hb).2) (λb hb=>(gF b hb).1) λ_ _ v=>v.mono k (.inr pl)
theorem Ze{names:G (ar×dc)}:names.lookup x=some k->
  (names.map λ(n,k)=>if(k==rQ&&X.scope.kind==.function&&X.kindOf n==some .cell) then(n,pg) else(n,k)).lookup x=some (if(k==rQ&&X.scope.kind==.function&&X.kindOf x==some .cell) then pg else k):=by
 induction names with
 |nil=>exact λh=>nomatch h
 |cons p r O=>
  obtain⟨n,k'⟩:=p
  intro h
  have e:∀I:Prop,[Decidable I]->(if I then(n,pg) else(n,k'))=(n,if I then pg else k'):=λI _=>by split<;>rfl
  rw [jM] at h
  rw [lj]
  refine(?_:List.lookup x ((if(k'==rQ&&X.scope.kind==.function&&X.kindOf n==some .cell)=true then(n,pg) else(n,k'))::_)=_)
  rw [e,jM]
  cases hx:x==n with
  |true=>
   rw [hx] at h
   rw [pI hx,aM h]
  |false=>
   rw [hx] at h
   exact O h
end
section
variable{ag:Type}{Z:cU ag}{ae:ag->Prop}{c:a_}{w:WB}{Y:bG}{own F F' C ao:G aA}{s:aT}{J h M:aP}{o br:MH}{K:b8}{W:bQ}{mg mb:ar->aa aw}{n:H}{cx:Cx}{fr cy:Fm}{X:cK}{O:Ops ag}
theorem mR.begin(az:dm c w F C h sc vars X)(ok:tg sc cB=true)(hs:dH.names=cB)(hk:dH.kind=.function)
  (Wt:∀q∈cl,X.cells.lookup q.1=some q.2) (kG:∀p∈cB,p.2=.free->cl.lookup p.1=X.cells.lookup p.1) (e1:jB.scope=relabel dH X) (e2:jB.globals=X.globals) (e3:jB.builtins=X.builtins) (e4:jB.cells=cl)
  (hm:h.Ns jB.locals m) (W_:jB.locals∈F) (kJ:∀b∈ownOf X,b≠jB.locals):mR c w F C h sc cB vars (cB.map λ_=>.none) jB:=by
 refine⟨by rw [e1];exact hk,e2.trans az.glob,e3.trans az.blt,λi x k hi=>?_,W_,λp hp=>?_,⟨m,hm,λi x mv h1 h2=>?_⟩,λi x h1 h2=>?_,NW ok⟩
 .refine xA (jZ hi) λi1 i2=>?_
  have hl:jB.kindOf x=some (if(k==rQ&&X.scope.kind==.function&&X.kindOf x==some .cell) then pg else k):=by
   unfold y8
   rw [e1]
   exact Ze (by rw [hs];exact i2)
  refine⟨λz=>?_,λz=>?_,λz j hj=>?_⟩
  .subst z;rw [hl];rfl
  .subst z;rw [hl];rfl
  .subst z
   have:X.kindOf x=some .cell:=by unfold y8;rw [az.names];exact(jZ hj).2
   rw [hl,az.kind,this];rfl
 .rw [e4] at hp
  exact az.own _ (.tail _ (cF.mpr ⟨_,lookup_mem (Wt p hp),rfl⟩))
 .rw [tZ] at h2
  cases q:cB[i]?<;>(rw [q] at h2;cases h2)
 .refine eK (az.cell i x h1) λI ov c1 c2 c4 c5=>?_
  refine⟨I,ov,?_,c2,?_,c5⟩
  .rw [e4,kG (x,.free) (lookup_mem h2) rfl];exact c1
  .exact kJ I (.tail _ (cF.mpr ⟨_,lookup_mem c1,rfl⟩))
theorem lookup_all{f:ar->aa aA}{cl:G (ar×aA)}(hq:∀q∈cl,f q.1=some q.2)(h:(x,I)∈cl):cl.lookup x=f x:=by
 induction cl with
 |nil=>nomatch h
 |cons p cl O=>
  obtain⟨y,d⟩:=p
  rw [jM]
  cases z:x==y with
  |true=>exact(pI z)▸(hq _ (.head _)).symm
  |false=>exact(bY.mp h).elim (λe=>bP (iS e).1 (ne_of_beq_false z)) (O λq hh=>hq q (.tail _ hh))
theorem Kz(Zk:bZ Z ae)(T:Top c w K W J mg mb)(ZB:pw ae c w J)(bl:fm ae c w J n O.ev)(L:qw ae c w J n O.cmp)(aq:Ctx c w J n Y F C s o cx fr X){cQ t i:aX}
  (hg:gN=⟨t,i,di,0⟩::gs) (qT:dH.kind=.function) (sJ:mE i=true) (hh:ae (uG Z W O cx cQ t i di gs dH.names fr o k))
  (q:∀bj Cl ao M tk m',bh [] C s.heap ao M->PV ae c w J (Cl::F) k (.ref bj) ao M->cH c w (Cl::F) ao M cx fr X->Cl∉F->s.heap.get? Cl=none->M.Ns Cl m'->compPost (bK c w.w) Y au use Q (.ref bj) Cl (.ok .next) {s with heap:=M,toks:=tk}):
  bo (bK c w.w) Y (comprehension (.ListComp cQ gN dH pos) dH X p2 (newList []) false (firstIter gN X) use) Q au s:=by
 subst hg
 unfold uG at hh
 generalize hc:cx.comp=ax at hh
 cases ax with
 |some _=>exact(Zk.fail hh).elim
 |none=>
  refine xA (iU (x:=Z.fail) Zk hh) λok hh=>?_
  have az:dm c w F C s.heap cx.sc fr.vars X:=by have:=aq.fr;unfold cH at this;rw [hc] at this;exact this
  have WQ:∀p∈dH.names,p.2=.free->∃I,X.cells.lookup p.1=some I:=by
   intro p hp hf
   rcases NV ok p hp with z|z|⟨_,j,hj⟩
   .rw [hf] at z;cases z
   .rw [hf] at z;cases z
   .refine jv (az.cell j p.1 (jZ hj).1) λI _ c1 _=>?_
    exact⟨I,c1⟩
  refine iZ (TM WQ []) λcl e1 e2 e3 e4=>?_
  have As:∀q∈cl,X.cells.lookup q.1=some q.2:=λq hq=>(e2 q hq).elim (λz=>nomatch z) (·.1)
  have Wv:closureFor dH X=pure cl:=by
   unfold closureFor
   refine(?_:(sE dH.names [] _>>=λcs=>pure cs:iT _)=pure cl)
   rw [bind_pure]
   exact e1
  have xI:=NW ok
  have AA:∀x∈dH.names,x.2=.local->dH.names.lookup x.1=some .local:=by
   intro x hx hl
   obtain⟨y,kd⟩:=x
   dsimp only at hl
   subst hl
   have key:∀{B:G (ar×dc)},(B.map (·.1)).Nodup->(y,qC)∈B->B.lookup y=some .local:=by
    intro B
    induction B with
    |nil=>intro _ h;cases h
    |cons p B fQ=>
     obtain⟨z,kz⟩:=p
     intro nd h
     rw [lj,ic] at nd
     rw [jM]
     refine dC (bY.mp h) (λe=>?_) λh=>?_
     .cases e;simp
     .have:y≠z:=λe=>nd.1 (cF.mpr ⟨_,h,e⟩)
      rw [mn.mpr this]
      exact fQ nd.2 h
   exact key xI hx
  refine wpAny_comprehension_free (gs:=gs) rfl (λx=>Es (λR k p z=>by have z:i=.Set R k p:=z;rw [z] at sJ;exact bz sJ) x) Wv qT AA ?_
  refine(?_:bo _ _ (eval i X) _ _ _)
  refine Fw Zk T ZB bl aq hh λeF gC h4 jt b=>?_
  obtain⟨u_,nJ,p7,h1,fc,S4,f4,Nw,x4,pO⟩:=b
  refine IE ?_ (gD _)
  refine wpAny_newFunctionEnv (λp hp z=>by rcases NV ok p hp with y|y|⟨y,_⟩<;>(rw [z] at y;cases y)) (λx hx=>nomatch hx) (λh6 AD Xj=>?_) qT
  have AD:h6.Ns (h4.push {cls:=.type "list",data:=.seq ([]:G aw).toArray}).objs.size (λx=>(([]:G (ar×aw)).reverse).lookup x):=AD
  have k5:∀b E,h4.get? b=some E->(h4.push {cls:=.type "list",data:=.seq ([]:G aw).toArray}).get? b=some E:=fK _ _
  have LX:h4.objs.size≠(h4.push {cls:=.type "list",data:=.seq ([]:G aw).toArray}).objs.size:=by rw [wq];exact rU (Rg _)
  have V_:(h4.push {cls:=.type "list",data:=.seq ([]:G aw).toArray}).get? h4.objs.size=some (fT #[] 0):=hZ _ rfl
  have c0:(h4.push {cls:=.type "list",data:=.seq ([]:G aw).toArray}).get? (h4.push {cls:=.type "list",data:=.seq ([]:G aw).toArray}).objs.size=none:=hV _
  generalize h4.push {cls:=.type "list",data:=.seq ([]:G aw).toArray}=H5 at*
  generalize agp:H5.objs.size=Cl at*
  have D0:h4.get? h4.objs.size=none:=hV _
  generalize hD:h4.objs.size=bj at*
  have k6:∀b E,H5.get? b=some E->h6.get? b=some E:=λb E e=>(Xj.2 b (qQ c0 e)).trans (fK _ _ _ _ e)
  have AY:∀b E,h4.get? b=some E->h6.get? b=some E:=λb E e=>k6 b E (k5 b E e)
  have Cg:h4.get? Cl=none:=by
   cases z:h4.get? Cl with
   |none=>rfl
   |some E=>rw [k5 _ _ z] at c0;exact ql c0
  have LK:=k6 _ _ V_
  have NN:∀{b:aA},h4.get? b=none->h1.get? b=none:=λ{b} z=>by
   cases y:h1.get? b with
   |none=>rfl
   |some E=>rw [f4.keep _ _ y] at z;exact ql z
  have D1:=NN D0
  have C1:=NN Cg
  have Em:jx J h1 h6 gC (nJ++[bj,Cl]):=⟨λb E e=>AY b E (f4.keep b E e),λb hb=>by
   refine dC (dI.mp hb) (λhb=>?_) λhb=>?_
   .refine xA (f4.new b hb) λz1 bB=>bw bB λE z2=>?_
    exact⟨z1,E,AY _ _ z2⟩
   .refine dC (bY.mp hb) (λrf=>?_) λhb=>?_
    .rw [rf];exact⟨D1,_,LK⟩
    .rw [cA.mp hb];exact⟨C1,Bf AD⟩⟩
  refine cf (S4.lO D1) λd1 d2 d3=>?_
  refine cf (S4.lO C1) λl1 l2 l3=>?_
  have G4:cH c w F gC h1 cx fr X:=aq.fr.step fc λa ha=>(aq.st.cI a ha).2.1
  have S6:St c w J (nJ++(bj::Cl::F)) gC p7 h6:=by have:=S4.enter Em;rwa [l_] at this
  have G6:cH c w (nJ++(bj::Cl::F)) gC h6 cx fr X:=by have:=G4.enter Em;rwa [l_] at this
  have Qp:dm c w (nJ++(bj::Cl::F)) gC h6 cx.sc fr.vars X:=by unfold cH at G6;rw [hc] at G6;exact G6
  have gF:∀b∈ownOf X,b∈F:=lP aq.fr
  have x6:fO c w (nJ++(bj::Cl::F)) gC h6 u_ eF nJ:=x4.mono (λa E e sf=>⟨AY a E e,λz=>by
   refine dC (dI.mp z) (λz=>?_) λz=>?_
   .exact sf.1 (iR _ z)
   .refine dC (bY.mp z) (λrf=>?_) λz=>?_
    .obtain rfl:=rf.symm;rw [D0] at e;exact aB e
    .refine dC (bY.mp z) (λrf=>?_) λz=>?_
     .obtain rfl:=rf.symm;rw [Cg] at e;exact aB e
     .exact sf.1 (fC _ z),sf.2⟩) λb hb E e=>AY b E e
  have kG:∀p∈dH.names,p.2=.free->cl.lookup p.1=X.cells.lookup p.1:=λp hp hf=>by
   refine ay (e4 p hp hf) λI z _=>?_
   exact lookup_all (f:=λx=>X.cells.lookup x) As z
  refine Ky (i:=i) (t:=t) (di:=di) rfl ?_ λQ au q=>x6.self q
  have V3:∀jB:cK,jB.scope=relabel dH X->jB.globals=X.globals->jB.builtins=X.builtins->jB.cells=cl->jB.locals=Cl->cH c w (nJ++(bj::Cl::F)) gC h6 ⟨cx.sc,some dH.names⟩ ⟨fr.vars,dH.names.map λ_=>.none⟩ jB:=λjB z1 z2 z3 z4 z5=>by
   unfold cH
   exact mR.begin Qp ok rfl qT As kG z1 z2 z3 z4 (by rw [z5];exact AD) (by rw [z5];exact fC _ (.tail _ (.head _))) λb hb z=>by rw [z5] at z;exact l2 (z▸gF b hb)
  refine L Y (bj::Cl::F) gC gC nJ h1 {s with heap:=h6,toks:=jt+([]:G (ar×aw)).length} p7 ⟨cx.sc,some dH.names⟩ cQ t i di (⟨t,i,di,0⟩::gs) gs dH pos 0 u_ eF bj [] ⟨fr.vars,dH.names.map λ_=>.none⟩ _ _ _ rfl rfl ⟨aq.room,S6,V3 _ rfl rfl rfl rfl rfl⟩ ?_ ?_ (.head _) ?_ x6 ⟨#[],_,LK,.nil⟩ (bh.of_keeps Em.keep).any (λb hb=>(f4.new b hb).1) pO ?_
  .intro b hb z
   refine xA (f4.new b hb) λz1 _=>?_
   have Lq:∃E,h4.get? b=some E:=(f4.new b hb).2
   refine dC (bY.mp z) (λrf=>?_) λz=>?_
   .obtain rfl:=rf.symm;obtain⟨E,ho⟩:=Lq;rw [D0] at ho;exact aB ho
   .refine dC (bY.mp z) (λrf=>?_) λz=>?_
    .obtain rfl:=rf.symm;obtain⟨E,ho⟩:=Lq;rw [Cg] at ho;exact aB ho
    .exact(S4.lO z1).2.1 z
  .intro b hb
   refine dC (bY.mp hb) (λrf=>?_) λhb=>?_
   .rw [rf];exact .tail _ (.head _)
   .refine ay (cF.mp hb) λp hp aE=>?_;rw [<-aE]
    exact .tail _ (.tail _ (gF _ (.tail _ (cF.mpr ⟨_,lookup_mem (As p hp),rfl⟩))))
  .intro hb
   refine dC (bY.mp hb) (λz=>?_) λhb=>?_
   .exact LX z
   .refine ay (cF.mp hb) λp hp z=>?_
    exact d2 (z▸gF _ (.tail _ (cF.mpr ⟨_,lookup_mem (As p hp),rfl⟩)))
  .intro Cc h7 aeQ Sa Eu ZZ kR S5 G5 DZ ER
   have yE:bh [bj,Cl] gC h1 Cc h7:=kR
   refine jv DZ λV nn g y=>?_
   have aaf:bj∉Cl::F:=λz=>by
    refine dC (bY.mp z) (λz=>?_) λz=>?_
    .exact LX z
    .exact d2 z
   have pv:=Gq (a:=bj) (F:=Cl::F) Zk S5 aaf ER λoc=>⟨V,nn,g,y.mono zG (.inr wQ),fG _,uv oc⟩
   have Xb:∃m',h7.Ns Cl m':=by
    have:=G5
    unfold cH at this
    refine ay ((this:mR c w (bj::Cl::F) Cc h7 cx.sc dH.names Eu.vars Eu.jU _).loc) λm' EU _=>?_
    exact⟨m',EU⟩
   refine bw Xb λm' EU=>?_
   have vE:∀{b:aA},h1.get? b=none->b∉gC->s.heap.get? b=none:=λ{b} z nb=>by
    cases e:s.heap.get? b with
    |none=>rfl
    |some E=>
     have aai:b∉C:=λq=>nb (by obtain⟨t',E5⟩:=fc.pre;rw [<-E5];exact iR _ q)
     rw [fc.keep b E e aai λq=>nomatch q] at z;exact ql z
   refine q bj Cl (Cc++[bj]) h7 aeQ m' ?_ pv ?_ l2 (vE C1 l1) EU
   .exact bh.close (new:=[bj,Cl]) (fc.any.trans yE) (λb hb=>by
     refine dC (bY.mp hb) (λrf=>?_) λhb=>?_
     .rw [rf];exact vE D1 d1
     .rw [cA.mp hb];exact vE C1 l1) (vE D1 d1)
   .refine G4.mono (λa E e sf=>?_) (λj b e=>wQ j b (yE.pl j b e)) λb hb=>⟨.tail _ (gF b hb),λE e=>?_⟩
    .have na:a∉[bj,Cl]:=λz=>by
      refine dC (bY.mp z) (λrf=>?_) λz=>?_
      .obtain rfl:=rf.symm;rw [D1] at e;exact aB e
      .rw [cA.mp z,C1] at e;exact aB e
     refine⟨yE.keep a E e sf.2 na,λz=>?_,λz=>?_⟩
     .refine dC (bY.mp z) (λrf=>?_) λz=>?_
      .obtain rfl:=rf.symm;exact na (.tail _ (.head _))
      .exact sf.1 z
     .refine dC (dI.mp z) (λz=>?_) λz=>?_
      .exact(yE.out a E e sf.2).2 z
      .rw [cA.mp z] at na;exact na (.head _)
    .have Ar:=gF b hb
     exact yE.keep b E e (S4.cI b Ar).2.1 λz=>by
      refine dC (bY.mp z) (λrf=>?_) λz=>?_
      .obtain rfl:=rf.symm;exact d2 Ar
      .rw [cA.mp z] at Ar;exact l2 Ar
end
section
variable{ag:Type}{Z:cU ag}{ae:ag->Prop}{c:a_}{w:WB}{Y:bG}{own F F' C ao:G aA}{s:aT}{J h M:aP}{o br:MH}{K:b8}{W:bQ}{mg mb:ar->aa aw}{n:H}{cx:Cx}{fr cy:Fm}{X:cK}{O:Ops ag}
theorem Ld(Zk:bZ Z ae)(T:Top c w K W J mg mb)(ZB:pw ae c w J)(bl:fm ae c w J n O.ev)(L:qw ae c w J n O.cmp)(aq:Ctx c w J n Y F C s o cx fr X)
  (qT:dH.kind=.function) (sJ:mE i=true) (hh:ae (uG Z W O cx cQ t i di gs dH.names fr o k)):bc c w Y [] C s (eval (.ListComp cQ (⟨t,i,di,0⟩::gs) dH pos) X) (PV ae c w J F k):=by
 intro Q au q
 rw [arm_eval_ListComp]
 dsimp only
 refine Kz (use:=none) Zk T ZB bl L aq rfl qT sJ hh λbj Cl ao h1 tk m' st pv az nC Gi hm=>?_
 refine⟨m',hm,λh2 hs=>?_⟩
 refine PV.el pv λm br hk S1 x1=>?_
 have pQ:iC Cl h1 h2:=hs
 have sI:∀b E,b∉[Cl]->h1.get? b=some E->h2.get? b=some E:=λb E nb e=>(pQ.2 b λz=>nb (cA.mpr z)).trans e
 refine q (.ref bj) ao h2 tk ?_ ⟨m,br,hk,St.drop (own:=[Cl]) S1 sI λb hb=>by rw [cA.mp hb];exact nC,VR.drop (own:=[Cl]) sI x1⟩
 exact bh.leave (own:=[Cl]) (jq:=[]) (st.any) (λb hb=>by rw [cA.mp hb];exact Gi) sI
theorem aei(v:aX)(x:ar)(p:Pos)(B:H)(X:cK)(h:∃e g s q,v=.ListComp e g s q):∃b,swapsWith v (some (.Name x p)) B X=pure b:=by
 refine gK h λe g bB=>gK bB λs q fV=>?_;rw [fV]
 exact⟨_,rfl⟩
theorem Sy(Zk:bZ Z ae)(T:Top c w K W J mg mb)(ZB:pw ae c w J)(bl:fm ae c w J n O.ev)(L:qw ae c w J n O.cmp)(aq:Ctx c w J n Y F C s o cx fr X)
  (qT:dH.kind=.function) (sJ:mE i=true) (hh:ae (uG Z W O cx cQ t i di gs dH.names fr o λv o=>Z.opt (pC W cx fr (.Name x px) v) λfr=>k .next fr o)):
  bc c w Y (eI cx X) C s (exec (.Assign [.Name x px] (.ListComp cQ (⟨t,i,di,0⟩::gs) dH pos) OM) X) (PF ae c w J F cx X k):=by
 intro Q au q
 rw [exec_Assign_arm]
 refine aO (ju ?_)
 refine bw (aei (.ListComp cQ (⟨t,i,di,0⟩::gs) dH pos) x px OM.line X ⟨_,_,_,_,rfl⟩) λb hb=>?_
 have hs:swapsWithSole [.Name x px] (.ListComp cQ (⟨t,i,di,0⟩::gs) dH pos) OM.line X=pure b:=hb
 rw [hs]
 refine aO (bX ?_)
 cases b with
 |false=>
  rw [bk fY]
  refine aO (Ld Zk T ZB bl L aq qT sJ hh _ _ λv1 bq h1 aZ aS p1=>?_)
  refine PV.el p1 λm1 bM bR S1 x1=>?_
  refine ay (gW Zk bR) λfq e1 de=>?_
  have C1:=aq.next aS S1 aZ
  rw [O6 (t:=.Name x px) rfl λts k p V k' p' z=>by cases z.1]
  refine aO (bX ?_)
  show bo (bK c w.w) Y (do m9 (.Name x px) X v1;pure .next) Q au _
  exact aO (wZ (s:={s with heap:=h1,toks:=aZ}) aq.room.1 S1 C1.fr e1 x1 λh2 bS bp S2 G2=>bX (q _ bq h2 bS (aS.any.trans bp) ⟨.next,fq,bM,de,S2,G2,rfl⟩))
 |true=>
  rw [bT rfl]
  rw [arm_evalThenUse_ListComp]
  dsimp only
  refine aO (aO (Kz (use:=some _) Zk T ZB bl L aq rfl qT sJ hh λbj Cl ao h1 tk m' st pv az nC Gi hm=>?_))
  refine PV.el pv λm br hk S1 x1=>?_
  refine ay (gW Zk hk) λfq e1 de=>?_
  refine(?_:bo (bK c w.w) Y (m9 (.Name x px) X (.ref bj)) _ au _)
  refine wZ (s:={s with heap:=h1,toks:=tk}) aq.room.1 S1 az e1 x1 λh2 bS bp S2 G2=>?_
  have gF:=lP aq.fr
  have aad:Cl∉eI cx X:=λz=>nC (gF _ (vJ _ z))
  have aae:Cl∉ao:=(S1.cI Cl (.head _)).2.1
  refine⟨m',GD hm λE e=>bp.keep Cl E e aae aad,λh3 Xi=>bX (bX ?_)⟩
  have pQ:iC Cl h2 h3:=Xi
  have sI:∀b E,b∉[Cl]->h2.get? b=some E->h3.get? b=some E:=λb E nb e=>(pQ.2 b λz=>nb (cA.mpr z)).trans e
  refine q .next ao h3 bS ?_ ⟨.next,fq,br,de,St.drop (own:=[Cl]) S2 sI (λb hb=>by rw [cA.mp hb];exact nC),cH.drop (own:=[Cl]) sI (λb hb=>by rw [cA.mp hb];exact nC) gF G2,rfl⟩
  exact bh.leave (own:=[Cl]) (jq:=eI cx X) ((st.any (own:=[Cl]++eI cx X)).trans (bp.sub λb hb=>fC _ hb)) (λb hb=>by rw [cA.mp hb];exact Gi) sI
end
section
variable{ag:Type}{Z:cU ag}{ae:ag->Prop}{c:a_}{w:WB}{Y:bG}{own F F' C ao:G aA}{s:aT}{J h M:aP}{o br:MH}{K:b8}{W:bQ}{mg mb:ar->aa aw}{n:H}{cx:Cx}{fr cy:Fm}{X:cK}{O:Ops ag}
theorem V7(h:X.scope.kind=.function):Mw X=false:=by unfold Mw;rw [h];rfl
theorem Vn(bl:fm ae c w J n O.ev)(aq:Ctx c w J n Y F C s o cx fr X)(I:s8 e=true)(hh:ae (O.ev cx e fr o λ_ o=>k .next fr o)):bc c w Y (eI cx X) C s (exec (.Expr e pos) X) (PF ae c w J F cx X k):=by
 intro Q au q
 show bo (bK c w.w) Y (do tH pos;if Mw X then printExpr (eval e X) else if <-swapsWith e none pos.line X then do evalThenUse e X λ_=>point;pure .next else do dropValue e pos (<-eval e X)) Q au s
 refine aO (ju ?_)
 rw [V7 aq.fr.kind,bk fY,NF I]
 refine aO (bX ?_)
 rw [bk fY]
 refine aO (bl Y F C s o cx e fr X _ aq hh _ _ λv1 bq h1 aZ aS p1=>wpAny_dropValue ?_)
 refine PV.el p1 λm1 bM bR S1 x1=>?_
 exact q _ bq h1 aZ aS.any ⟨.next,fr,bM,bR,S1,(aq.next aS S1 aZ).fr,rfl⟩
theorem VW(Zk:bZ Z ae)(T:Top c w K W J mg mb)(ZB:pw ae c w J)(bl:fm ae c w J n O.ev)(L:wm ae c w J n O.forL)(aq:Ctx c w J n Y F C s o cx fr X)(I:mE i=true)(hh:ae (uH Z W O cx i fr o λit o=>O.forL cx t it b fr o k)):
  bc c w Y (eI cx X) C s (exec (.For t i b [] pos) X) (PF ae c w J F cx X k):=by
 intro Q au q
 refine wpAny_For ?_ λx=>Es (λR k p z=>by rw [z] at I;exact bz I) x
 refine Fw Zk T ZB bl aq hh λeF gC h4 jt bg=>?_
 obtain⟨it,own,p7,h1,fc,S4,f4,Nw,x4,pO⟩:=bg
 have G4:cH c w F gC h1 cx fr X:=aq.fr.step fc λa ha=>(aq.st.cI a ha).2.1
 have vE:∀b∈own,s.heap.get? b=none:=λb hb=>by
  refine xA (f4.new b hb) λz1 _=>?_
  cases e:s.heap.get? b with
  |none=>rfl
  |some E=>
   have nb:b∉C:=λz=>(S4.lO z1).1 (by obtain⟨t',E5⟩:=fc.pre;rw [<-E5];exact iR _ z)
   rw [fc.keep b E e nb λz=>nomatch z] at z1;exact ql z1
 refine L Y F C gC own s.heap {s with heap:=h4,toks:=jt} p7 cx t it eF b fr X k _ ⟨aq.room,S4.enter f4,G4.enter f4⟩ (λb hb=>(S4.lO (f4.new b hb).1).2.1) (lP aq.fr) x4 (fc.any.trans (bh.of_keeps f4.keep).any) vE pO λf ao M tk st p=>?_
 exact q f ao M tk st p
theorem afs(L:wO ae c w J n O.iO)(aq:Ctx c w J n Y F C s o cx fr X)(hh:ae (O.iO cx t b fr o k)):
  bc c w Y (eI cx X) C s (exec (.While t b [] pos) X) (PF ae c w J F cx X k):=by
 intro Q au q
 exact wpAny_While (L Y F C s o cx t b fr X k _ aq hh λf ao M tk st p=>q f ao M tk st p)
end
section
variable{ag:Type}{Z:cU ag}{ae:ag->Prop}{c:a_}{w:WB}{Y:bG}{own F F' C ao:G aA}{s:aT}{J h M:aP}{o br:MH}{K:b8}{W:bQ}{mg mb:ar->aa aw}{n:H}{cx:Cx}{fr cy:Fm}{X:cK}{O:Ops ag}
theorem LF(h:uM sc=true):sc.kind=.function:=by
 unfold uM at h
 cases q:sc.kind<;>first|rfl|(rw [q] at h;exact bz h)
theorem XH(bl:lZ ae c w J n O.ex)(fF:mW ae c w J n O.fh)(aq:Ctx c w J n Y F C s o cx fr X)(hh:ae (O.fh cx t fr o λI o=>@bN (λ_=>ag) (iy O cx b fr o k) (iy O cx a fr o k) I)):
  bc c w Y (eI cx X) C s (exec (.If t a b pos) X) (PF ae c w J F cx X k):=by
 intro Q au q
 refine wpAny_If (fF Y F C s o cx t fr X _ aq hh _ _ λI bq h1 aZ aS p1=>?_)
 obtain⟨bM,bR,S1⟩:=p1
 have C1:=aq.next aS S1 aZ
 cases I with
 |true=>
  rw [bT rfl]
  exact ku bl a bq {s with heap:=h1,toks:=aZ} bM fr k C1 bR _ _ λf bf h2 bS bp p2=>q f bf h2 bS (aS.any.trans bp) p2
 |false=>
  rw [bk fY]
  exact ku bl b bq {s with heap:=h1,toks:=aZ} bM fr k C1 bR _ _ λf bf h2 bS bp p2=>q f bf h2 bS (aS.any.trans bp) p2
theorem acz(bl:fm ae c w J n O.ev)(aq:Ctx c w J n Y F C s o cx fr X)(hh:ae (O.ev cx e fr o λv o=>k (.ret v) fr o)):
  bc c w Y (eI cx X) C s (exec (.Return (some e) pos) X) (PF ae c w J F cx X k):=by
 intro Q au q
 refine wpAny_Return_some (bl Y F C s o cx e fr X _ aq hh _ _ λv1 bq h1 aZ aS p1=>?_)
 obtain⟨m1,bM,bR,S1,x1⟩:=p1
 exact q _ bq h1 aZ aS.any ⟨.ret m1,fr,bM,bR,S1,(aq.next aS S1 aZ).fr,v1,rfl,x1⟩
noncomputable def C9(e:aX):VE->Prop
 |.const I=>∃kd p,e=.Constant I kd p
 |.name x=>∃p,e=.Name x p/\(!(seq x tC))=true
 |.nc fI a R=>∃p,e=.BoolOp (GO fI) (a::R) p
 |.un op a=>∃p,e=.UnaryOp op a p
 |.bin a op b=>∃p,e=.BinOp a op b p
 |.cmp a op b=>∃p,e=.Compare a [op] [b] p/\Dm op b=false
 |.qW t a b=>∃p,e=.IfExp t a b p
 |.tup R=>∃kd p,e=.Tuple R kd p/\gG R=true
 |.list R=>∃p,e=.List R p/\gG R=true
 |.dict ks V=>∃p,e=.Dict ks V p/\(dB ks.length 16&&wR ks&&bA ks.length V.length)=true
 |.attr E x=>∃p,e=.Attribute E x p/\tf E=true
 |.item E i=>∃p,e=.Subscript E i p
 |.slice E lo up st=>∃q p,e=.Subscript E (.Slice lo up st q) p
 |.comp cQ t i di gs cB=>∃sc p,e=.ListComp cQ (⟨t,i,di,0⟩::gs) sc p/\cB=sc.names/\(uM sc&&mE i)=true
 |.call f args=>∃x q p,f=.Name x q/\e=.Call f args [] p/\gG args=true
 |.yc E x args=>∃q p,e=.Call (.Attribute E x q) args [] p/\gG args=true/\(tf E&&bA q.endLine p.line&&dB args.length 29)=true
 |.HG f a kf=>∃x q kp p,f=.Name x q/\e=.Call f [a] [⟨some vO,kf,kp⟩] p/\gG [a]=true
 |.bad=>jz
theorem rb{P:VE->Prop}(b0:P .bad):∀{I:ah},(I=true->P v)->P (oP I v)
 |true,h=>h rfl
 |false,_=>b0
theorem PK(e:aX):C9 e (view e):=by
 cases e with
 |Constant I kd p=>exact⟨kd,p,rfl⟩
 |Name x p=>exact rb trivial λI=>⟨p,rfl,I⟩
 |BoolOp op V p=>cases V with
  |nil=>trivial
  |cons a R=>cases op<;>exact⟨p,rfl⟩
 |UnaryOp op a p=>exact⟨p,rfl⟩
 |BinOp a op b p=>exact⟨p,rfl⟩
 |IfExp t a b p=>exact⟨p,rfl⟩
 |Tuple R kd p=>exact rb trivial λI=>⟨kd,p,rfl,I⟩
 |List R p=>exact rb trivial λI=>⟨p,rfl,I⟩
 |Dict ks V p=>exact rb trivial λI=>⟨p,rfl,I⟩
 |Attribute E x p=>exact rb trivial λI=>⟨p,rfl,I⟩
 |Compare a ops bs p=>cases ops with
  |nil=>trivial
  |cons op r=>cases r with
   |cons=>trivial
   |nil=>cases bs with
    |nil=>trivial
    |cons b r=>cases r with
     |cons=>trivial
     |nil=>cases b<;>first|exact⟨p,rfl,rfl⟩|trivial
 |Subscript E i p=>cases i<;>first|exact⟨_,p,rfl⟩|exact⟨p,rfl⟩
 |ListComp cQ gN dH p=>cases gN with
  |nil=>trivial
  |cons g gs=>
   obtain⟨tt,i,di,a⟩:=g
   refine(?_:C9 _ (match eqZ a 0 with|true=>oP (uM dH&&mE i) (.comp cQ tt i di gs dH.names)|false=>.bad))
   cases ca:eqZ a 0 with
   |false=>trivial
   |true=>
    have ha:=(jC _ _).mp ca
    rw [ha]
    exact rb trivial λI=>⟨dH,p,rfl,rfl,I⟩
 |Call f args kw p=>
  refine rb (P:=C9 _) trivial λI=>?_
  cases kw with
  |nil=>cases f with
   |Attribute E x q=>exact rb trivial λc2=>⟨q,p,rfl,I,c2⟩
   |Name x q=>exact⟨x,q,p,rfl,rfl,I⟩
   |_=>trivial
  |cons k1 r=>cases r with
   |cons=>trivial
   |nil=>
    obtain⟨x,kf,kp⟩:=k1
    cases x with
    |none=>trivial
    |some x=>
     dsimp only
     cases ck:seq x vO with
     |false=>trivial
     |true=>
      have ex:=lV.mp ck
      subst ex
      cases args with
      |nil=>trivial
      |cons a r=>cases r with
       |cons=>trivial
       |nil=>cases f with
        |Name y q=>exact⟨y,q,kp,p,rfl,rfl,I⟩
        |_=>trivial
 |_=>trivial
noncomputable def C_(st:en):VS->Prop
 |.expr e=>∃p,st=.Expr e p/\s8 e=true
 |.ret e=>∃p,st=.Return (some e) p
 |.asg t e=>∃p,st=.Assign [t] e p/\(s8 e&&Bl t&&Bk t e)=true
 |.wW t cQ tt i di gs cB=>∃x px sc lp p,t=.Name x px/\st=.Assign [t] (.ListComp cQ (⟨tt,i,di,0⟩::gs) sc lp) p/\cB=sc.names/\(uM sc&&mE i)=true
 |.qW t a b=>∃p,st=.If t a b p
 |.iO t b=>∃p,st=.While t b [] p
 |.for t i b=>∃p,st=.For t i b [] p/\mE i=true
 |.bad=>jz
theorem GR{P:VS->Prop}(b0:P .bad):∀{I:ah},(I=true->P v)->P (Bm I v)
 |true,h=>h rfl
 |false,_=>b0
theorem afe(st:en):C_ st (Iw st):=by
 cases st with
 |Expr e p=>exact GR trivial λI=>⟨p,rfl,I⟩
 |Return e p=>cases e with
  |none=>trivial
  |some e=>exact⟨p,rfl⟩
 |If t a b p=>exact⟨p,rfl⟩
 |While t b E p=>cases E with
  |nil=>exact⟨p,rfl⟩
  |cons=>trivial
 |For t i b E p=>cases E with
  |nil=>exact GR trivial λI=>⟨p,rfl,I⟩
  |cons=>trivial
 |Assign ts e p=>cases ts with
  |nil=>trivial
  |cons t r=>cases r with
   |cons=>trivial
   |nil=>cases e with
    |ListComp cQ gN dH lp=>cases t with
     |Name x px=>
      have cP:=PK (.ListComp cQ gN dH lp)
      refine(?_:C_ _ (match view (.ListComp cQ gN dH lp) with|.comp cQ tt i di gs cB=>VS.wW (.Name x px) cQ tt i di gs cB|_=>.bad))
      generalize view (.ListComp cQ gN dH lp)=v at cP
      cases v with
      |comp=>obtain⟨sc,q,h,rfl,I⟩:=cP;obtain⟨rfl,rfl,rfl,rfl⟩:=Expr.ListComp.inj h;exact⟨x,px,_,_,p,rfl,rfl,rfl,I⟩
      |_=>trivial
     |_=>trivial
    |_=>first|trivial|exact GR (P:=C_ _) trivial λI=>⟨p,rfl,I⟩
 |_=>trivial
theorem Vm(Zk:bZ Z ae)(T:Top c w K W J mg mb)(ZB:pw ae c w J)(bl:fm ae c w J n O.ev)(fF:mW ae c w J n O.fh)(bu:lZ ae c w J n O.ex)(L1:wO ae c w J n O.iO)(L2:wm ae c w J n O.forL)(L3:qw ae c w J n O.cmp):lZ ae c w J (n+1) (Ek Z W O):=by
 intro Y F C s o cx st fr X k aq hh
 have aq:=aq.lower
 unfold Ek at hh
 have cP:=afe st
 generalize Iw st=v at hh cP
 cases v with
 |expr e=>obtain⟨p,rfl,I⟩:=cP;exact Vn bl aq I hh
 |ret e=>obtain⟨p,rfl⟩:=cP;exact acz bl aq hh
 |asg t e=>obtain⟨p,rfl,I⟩:=cP;exact Sz Zk T bl aq I hh
 |wW t cQ tt i di gs cB=>
  obtain⟨x,px,sc,lp,p,rfl,rfl,rfl,I⟩:=cP
  obtain⟨c1,c2⟩:=aN.mp I
  exact Sy Zk T ZB bl L3 aq (LF c1) c2 hh
 |qW t a b=>obtain⟨p,rfl⟩:=cP;exact XH bu fF aq hh
 |iO t b=>obtain⟨p,rfl⟩:=cP;exact afs L1 aq hh
 |«for» t i b=>obtain⟨p,rfl,I⟩:=cP;exact VW Zk T ZB bl L2 aq I hh
 |bad=>exact(Zk.fail hh).elim
end
section
variable{ag:Type}{Z:cU ag}{ae:ag->Prop}{c:a_}{w:WB}{Y:bG}{own F F' C ao:G aA}{s:aT}{J h M:aP}{o br:MH}{K:b8}{W:bQ}{mg mb:ar->aa aw}{n:H}{cx:Cx}{fr cy:Fm}{X:cK}{O:Ops ag}
theorem Vl(Zk:bZ Z ae)(T:Top c w K W J mg mb)(ZB:pw ae c w J)(bl:fm ae c w J n O.ev)(fF:mW ae c w J n O.fh)(Cl:qu ae c w J n O.call)(L3:qw ae c w J n O.cmp):fm ae c w J (n+1) (Ei Z W O):=by
 intro Y F C s o cx e fr X k C' hh
 have aq:=C'.lower
 unfold Ei at hh
 have cP:=PK e
 generalize view e=v at hh cP
 cases v with
 |const I=>obtain⟨kd,p,rfl⟩:=cP;exact TV Zk aq hh
 |name x=>obtain⟨p,rfl,I⟩:=cP;exact UR Zk T aq (NP I) hh
 |nc fI a R=>
  refine bw cP ?_;clear cP;intro p aI;subst aI
  exact Tn Zk bl R a C s o k aq hh
 |un op a=>obtain⟨p,rfl⟩:=cP;exact Vi Zk bl aq hh
 |bin a op b=>obtain⟨p,rfl⟩:=cP;exact UE Zk bl aq hh
 |cmp a op b=>obtain⟨p,rfl,I⟩:=cP;exact UH Zk T bl aq I hh
 |qW t a b=>obtain⟨p,rfl⟩:=cP;exact UN bl fF aq hh
 |tup R=>obtain⟨kd,p,rfl,I⟩:=cP;exact Vh Zk bl aq I hh
 |list R=>obtain⟨p,rfl,I⟩:=cP;exact UP Zk bl aq I hh
 |dict ks V=>obtain⟨p,rfl,I⟩:=cP;exact UK Zk bl aq I hh
 |attr E x=>obtain⟨p,rfl,I⟩:=cP;exact UC Zk T bl aq I hh
 |item E i=>obtain⟨p,rfl⟩:=cP;exact UO Zk T bl aq hh
 |slice E lo up st=>obtain⟨q,p,rfl⟩:=cP;exact Vf Zk bl aq hh
 |comp cQ t i di gs cB=>
  refine eO cP ?_;clear cP;intro sc p aE bU I;subst aE;subst bU
  refine xA (aN.mp I) λc1 c2=>?_
  exact Ld Zk T ZB bl L3 aq (LF c1) c2 hh
 |call f args=>obtain⟨x,q,p,rfl,rfl,I⟩:=cP;exact UG Zk T bl Cl aq I hh
 |yc E x args=>obtain⟨q,p,rfl,I,c2⟩:=cP;exact UQ Zk T bl Cl aq I c2 hh
 |HG f a kf=>obtain⟨x,q,kp,p,rfl,rfl,I⟩:=cP;exact Vg Zk T bl Cl C' I hh
 |bad=>exact(Zk.fail hh).elim
end
theorem F8{α:Type}{names:G ar}:∀{V:G α} {i:H} {x:ar},names.Nodup->names[i]?=some x->(names.zip V).lookup x=V[i]?:=by
 induction names with
 |nil=>exact λ_ e=>nomatch e
 |cons a names O=>
  intro V i x nd e
  cases V with
  |nil=>rfl
  |cons v V=>
   rw [CD,jM]
   cases i with
   |zero=>rw [aM e,r7];rfl
   |succ i=>
    rw [mn.mpr λ(q:x=a)=>(ic.mp nd).1 (q▸dy (l:=names) e)]
    exact O (ic.mp nd).2 e
theorem agL{α:Type}{names:G ar}:∀{V:G α} {x:ar},x∉names->(names.zip V).lookup x=none:=by
 induction names with
 |nil=>exact λ_=>rfl
 |cons a names O=>
  intro V x h
  cases V with
  |nil=>rfl
  |cons v V=>
   rw [CD,jM,mn.mpr λ(q:x=a)=>h (q▸.head _)]
   exact O λq=>h (.tail _ q)
theorem lookup_append{α:Type}(s t:G (ar×α))(y:ar):(s++t).lookup y=(s.lookup y).or (t.lookup y):=by
 induction s with
 |nil=>rfl
 |cons p s O=>
  obtain⟨a,v⟩:=p
  rw [Jf,jM,jM]
  cases y==a with
  |true=>rfl
  |false=>exact O
theorem Zd{α:Type}(B:G (ar×α)):∀(s:G (ar×α)) (y:ar),(B.foldl (λs x=>if(s.lookup x.1).isNone=true then s++[(x.1,x.2)] else s) s).lookup y=(s.lookup y).or (B.lookup y):=by
 induction B with
 |nil=>exact λs y=>(RC).symm
 |cons p B O=>
  obtain⟨a,v⟩:=p
  intro s y
  rw [Jk,O,jM]
  cases z:s.lookup a with
  |none=>
   rw [bT (show RA (none:aa α)=true from rfl),lookup_append,jM]
   cases q:y==a with
   |true=>rw [pI q,z];rfl
   |false=>rw [List.lookup_nil,RC]
  |some u=>
   rw [bk (show ¬RA (some u)=true from fY)]
   cases q:y==a with
   |true=>rw [pI q,z];rfl
   |false=>rfl
theorem Vt{α:Type}(f:ar->aa α)(names:G ar):∀(ws:G α),names.length=ws.length->(∀(i:H) (x:ar),names[i]?=some x->f x=ws[i]?)->(names.filterMap λn=>(f n).map λv=>(n,v))=names.zip ws:=by
 induction names with
 |nil=>exact λ_ _ _=>rfl
 |cons a names O=>
  intro ws h k
  cases ws with
  |nil=>exact bP h (rV _)
  |cons v ws=>
   rw [zf,k 0 a rfl,CD]
   exact cq _ (O ws (lu h) λi=>k (i+1))
noncomputable def Hb(p:Arguments):ah:=p.posonlyargs.isEmpty&&p.vararg.isNone&&p.kwonlyargs.isEmpty&&p.kwarg.isNone
noncomputable def Dx(slots:G (ar×aw))(B:G (ar×aw)):iT (G (ar×aw)):=sE B slots λ(x:ar×aw) (sl:G (ar×aw))=>if(sl.lookup x.1).isNone=true then pure (rH (sl++[(x.1,x.2)])) else pure (rH sl)
theorem S_(f1 f2:ar)(as:G Arg)(kd:G (aa aX))(df:G aX)(f4:FuncBody)(f5:Scope)(f6:aA)(f7:G (ar×aA))(f8 f9 xp oB:aw)(xq:aa aA)(xr uK:aw)(El:aA)(iM:G aw)(names:G ar)(hn:as.map (·.arg)=names):
 ∃B1 B2:aa (dS aw)->iT (G (ar×aw)),bindArgs ⟨f1,f2,⟨[],as,none,[],kd,none,df⟩,f4,f5,f6,f7,f8,f9,xp,oB,xq,xr,uK,El⟩ ⟨iM,[]⟩=(tD f8>>=λE=>
   if(decide (iM.length>names.length)&&(none:aa Arg).isNone)=true then B1 E
   else if(!((names.take (names.length-((E.getD #[]).toList.drop ((E.getD #[]).toList.length-names.length)).length)).filter λn=>((names.zip iM).lookup n).isNone).isEmpty)=true then B2 E
   else Dx (names.zip iM) ((names.drop (names.length-((E.getD #[]).toList.drop ((E.getD #[]).toList.length-names.length)).length)).zip ((E.getD #[]).toList.drop ((E.getD #[]).toList.length-names.length)))>>=λsl=>pure ((names++[]).filterMap λn=>(sl.lookup n).map (n,·))):=by
 obtain rfl:=hn.symm
 exact⟨_,_,rfl⟩
theorem O1{n v d:H}(h:n-v<=d):n-d<=v:=Nat.sub_le_of_le_add (mV d v▸Nat.le_add_of_sub_le h)
theorem Sv{n v d i:H}(h1:v<=n)(h2:n-v<=d)(h3:d<=n)(I:v<=i):i-(n-d)=d-(n-v)+(i-v):=by
 refine bw (CI h1) λa aI=>?_;subst aI
 refine bw (CI I) λI aI=>?_;rw [aI]
 rw [jO] at h2
 refine bw (CI h2) λb aI=>?_;subst aI
 have hb:b<=v:=Rc (a:=a) (mV v a▸h3)
 refine bw (CI hb) λe aI=>?_;rw [aI]
 rw [jO,jO,jO,mV (b+e) a,Nat.add_sub_add_left,jO,Ju,Rb]
theorem Tf(B:G (ar×aw)):∀s0:G (ar×aw),Dx s0 B=pure (B.foldl (λs x=>if(s.lookup x.1).isNone=true then s++[(x.1,x.2)] else s) s0):=by
 induction B with
 |nil=>exact λ_=>rfl
 |cons x B O=>
  intro s0
  unfold Dx at O⊢
  rw [o_,Jk]
  by_cases I:(s0.lookup x.1).isNone=true
  .rw [bT I,vL,bT I];exact O _
  .rw [bk I,vL,bk I];exact O _
theorem Te{gL:Model}
  (hp:Hb fd.params=true) (hn:fd.params.args.map (·.arg)=names) (nd:names.Nodup)
  (hd:∀Q:aa (dS aw)->aT->Prop,(∀E,(E.getD #[]).toList=dv->Q E s)->bo gL Y (tD fd.defaults) Q au s)
  (h1:iM.length<=names.length) (h2:names.length-iM.length<=dv.length) (h3:dv.length<=names.length)
  (q:Q (names.zip (iM++dv.drop (dv.length-(names.length-iM.length)))) s):bo gL Y (bindArgs fd ⟨iM,[]⟩) Q au s:=by
 unfold Hb at hp
 simp only [tR,Jn,RB] at hp
 obtain⟨⟨⟨p1,p2⟩,p3⟩,p4⟩:=hp
 obtain⟨f1,f2,⟨po,as,va,ko,kd,agF,df⟩,f4,f5,f6,f7,f8,f9,xp,oB,xq,xr,uK,El⟩:=fd
 dsimp only at hn hd p1 p2 p3 p4
 subst p1 p2 p3 p4
 refine gK (S_ f1 f2 as kd df f4 f5 f6 f7 f8 f9 xp oB xq xr uK El iM names hn) λB1 B2 ef=>?_
 rw [ef]
 refine aO (hd _ λE ho=>?_)
 have e1:dv.drop (dv.length-names.length)=dv:=by rw [Nat.sub_eq_zero_of_le h3];rfl
 rw [ho,e1]
 have e2:(decide (iM.length>names.length)&&(none:aa Arg).isNone)=false:=by
  rw [jf (g7.mpr h1)];rfl
 have e3:((names.take (names.length-dv.length)).filter λn=>((names.zip iM).lookup n).isNone)=[]:=by
  rw [List.filter_eq_nil_iff]
  intro x hx I
  obtain⟨i,hi,e⟩:=iE hx
  rw [zj] at hi
  rw [List.getElem_take] at e
  have:names[i]?=some x:=by rw [cV (nY hi (Ri _ _)),e]
  rw [F8 nd this,cV (nY (nY hi (Nat.min_le_left _ _)) (O1 h2))] at I
  exact bz I
 rw [e2,bk fY,e3,bk (by decide),Tf,h_]
 refine aO (bX (bX ?_))
 refine cast (cq (λB=>Q B s) ?_) q
 refine(Vt _ names _ (by rw [fy,rL,JB h2,wG h1]) λi x e=>?_).symm
 have hi:i<names.length:=(eM.mp e).1
 rw [Zd,F8 nd e]
 by_cases I:i<iM.length
 .rw [iD I,cV I];rfl
 .have c':iM.length<=i:=Nat.le_of_not_lt I
  rw [Jl c',mS c',Cs]
  rw [Option.none_or,F8 (i:=i-(names.length-dv.length)) (Co (List.drop_sublist ..) nd) (by rw [Cs];rw [<-e];rw [wG (dQ (O1 h2) c')])]
  rw [Sv h1 h2 h3 c']
section
set_option tactic.hygienic true
theorem Ko:∀{n:H} {b_:G (ar×aA)},((x,pg)∈names\/(b_.lookup x).isSome=true)->((w_ n names b_).lookup x).isSome=true:=by
 induction names with
 |nil=>exact λh=>h.elim (λh=>nomatch h) id
 |cons p r O=>
  obtain⟨y,k⟩:=p
  intro n b_ h
  unfold w_
  split
  .refine O (h.elim (λh=>(bY.mp h).elim (λe=>.inr ?_) .inl) λq=>.inr ?_)
   .rw [(iS e).1,jM,r7];rfl
   .rw [jM]
    cases x==y with
    |true=>rfl
    |false=>exact q
  .rename_i hk
   exact O (h.imp_left λh=>(bY.mp h).resolve_left λe=>hk ((iS e).2▸r7 _))
theorem TA:∀{n:H} {b_:G (ar×aA)},(names.map (·.1)).Nodup->(b_.map (·.1)).Nodup->(∀x∈b_.map (·.1),x∉names.map (·.1))->((w_ n names b_).map (·.1)).Nodup:=by
 induction names with
 |nil=>exact λ_ h _=>h
 |cons p r O=>
  obtain⟨y,k⟩:=p
  intro n b_ nd h d
  have nd:=ic.mp nd
  unfold w_
  split
  .refine O nd.2 (ic.mpr ⟨λq=>d y q (.head _),h⟩) λx hx=>?_
   exact(bY.mp hx).elim (λz=>z▸nd.1) λhx q=>d x hx (.tail _ q)
  .exact O nd.2 h λx hx q=>d x hx (.tail _ q)
theorem A3{α:Type}{B:G (ar×α)}{I:α}:(B.map (·.1)).Nodup->(x,I)∈B->B.lookup x=some I:=by
 induction B with
 |nil=>exact λ_ h=>nomatch h
 |cons p B O=>
  obtain⟨y,d⟩:=p
  intro nd h
  have nd:=ic.mp nd
  rw [jM]
  refine(bY.mp h).elim (λe=>?_) λh=>?_
  .rw [(iS e).1,(iS e).2,r7]
  .rw [mn.mpr λe=>nd.1 (cF.mpr ⟨_,h,e⟩)]
   exact O nd.2 h
theorem Td:∀{m:ar->aa aw} {x:ar},x∉lz.map (·.1)->bindL kf lz m x=m x:=by
 induction lz with
 |nil=>exact λ_=>rfl
 |cons p r O=>
  intro m x h
  unfold bindL
  rw [O λq=>h (.tail _ q)]
  split
  .exact bk λ(e:x=p.1)=>h (by rw [e];exact .head _)
  .rfl
theorem Tb:∀{m:ar->aa aw} {x:ar},x∉lz.map (·.1)->bindC kf lz m x=m x:=by
 induction lz with
 |nil=>exact λ_=>rfl
 |cons p r O=>
  intro m x h
  unfold bindC
  rw [O λq=>h (.tail _ q)]
  split
  .rfl
  .exact bk λ(e:x=p.1)=>h (by rw [e];exact .head _)
theorem Tc:∀{m:ar->aa aw} {x:ar} {v:aw},(lz.map (·.1)).Nodup->(x,v)∈lz->kf x=some .local->bindL kf lz m x=some v:=by
 induction lz with
 |nil=>exact λ_ h _=>nomatch h
 |cons p r O=>
  intro m x v nd h k
  have nd:=ic.mp nd
  unfold bindL
  refine(bY.mp h).elim (λe=>?_) λh=>O nd.2 h k
  obtain rfl:=e
  rw [bT k,Td nd.1,bT rfl]
theorem Ta:∀{m:ar->aa aw} {x:ar} {v:aw},(lz.map (·.1)).Nodup->(x,v)∈lz->kf x≠some .local->bindC kf lz m x=some v:=by
 induction lz with
 |nil=>exact λ_ h _=>nomatch h
 |cons p r O=>
  intro m x v nd h k
  have nd:=ic.mp nd
  unfold bindC
  refine(bY.mp h).elim (λe=>?_) λh=>O nd.2 h k
  obtain rfl:=e
  rw [bk k,Tb nd.1,bT rfl]
noncomputable def MF(k:dc):ah:=match k with
 |.local=>true
 |.cell=>true
 |_=>false
noncomputable def GG(fd:y_):ah:=Hb fd.params&&!fd.scope.isCoroutine&&!fd.scope.isGenerator&&fd.closure.isEmpty&&(fd.globals==mB)&&(fd.builtins==qH)
structure nX(c:a_)(w:WB)(J:aP)(a:H)(F:Fn)(E:jy)(fd:y_)(dv:G aw):Prop where
 obj:J.get? a=some E
 data:E.data=.func fd
 code:J.CodeRec fd.code fd.qualname
 ok:GG fd=true
 kind:fd.scope.kind=.function
 body:fd.body=.stmts F.body
 names:fd.scope.names=F.sc
 Oa:fd.params.args.map (·.arg)=(F.sc.take F.hO).map (·.1)
 kinds:(F.sc.take F.hO).all (λp=>MF p.2)=true
 np:F.hO<=F.sc.length
 nd:(F.sc.map (·.1)).Nodup
 nf:F.jg.length<=F.hO
 dflt:(fd.defaults=.none/\dv=[])\/∃T E n,fd.defaults=.ref T/\J.get? T=some E/\E.data=.seq dv.toArray n
 KX:aW c w [] [] J F.jg dv
section
variable{ag:Type}{Z:cU ag}{ae:ag->Prop}{c:a_}{w:WB}{Y:bG}{own F F' C ao:G aA}{s:aT}{J h M:aP}{o br:MH}{K:b8}{W:bQ}{mg mb:ar->aa aw}{n:H}{cx:Cx}{fr cy:Fm}{X:cK}{O:Ops ag}
theorem agR(dH:Scope)(L g:aA)(Kn:G (ar×aA))(q:ar)(f:aa aA)(I:aw)(b:aA):ownOf (newEnv dH L g Kn q f I none b)=L::Kn.map (·.2):=rfl
theorem aW.base(S:St c w J F C o h)(x:aW c w [] [] J m v):aW c w F C h m v:=
 x.mono (λa E e _=>⟨(S.keep a E e).1,⟨(λq=>nomatch (e.symm.trans (S.cI a q).2.2:some E=none)),(S.keep a E e).2⟩⟩) (.inr λi a e=>by simp at e)
theorem zP(T:Top c w K W J mg mb){a:H}{E:jy}(Fi:nX c w J a az E fd dv)(E0:Y.depth<Hk)(room:∀X,eY n (Y.deeper X))(S:St c w J F C o s.heap)
  (y:aW c w F C s.heap B V) (eb:tI az B=some b)
  (hB:∀(s1:aT) (X:cK),Ctx c w J n (Y.deeper X) (ownOf X++F) C s1 o ⟨az.sc,.none⟩ ⟨b,[]⟩ X->bc c w (Y.deeper X) (ownOf X) C s1 (iH az.body X) (PF ae c w J (ownOf X++F) ⟨az.sc,.none⟩ X λf _ o=>@eh.rec (λ_=>ag) (k .none o) (λv=>k v o) f)) (q:∀v ao M tk,bh [] C s.heap ao M->PV ae c w J F k v ao M->R' (.ok (.ret v)) {s with heap:=M,toks:=tk}):lB (bK c w.w) Y (.call (.ref a) ⟨V,[]⟩) R' s:=by
 obtain⟨f1,f2,f3,f4,f5,f6,f7,f8,f9,xp,oB,xq,xr,uK⟩:=Fi
 unfold GG at f4
 simp only [tR,wi,Jn,qG] at f4
 obtain⟨⟨⟨⟨⟨g1,g2⟩,g3⟩,g4⟩,g5⟩,g6⟩:=f4
 unfold tI at eb
 refine xA (bI eb) λI eb=>?_
 refine xA (aN.mp I) λc1 c2=>?_
 have c1:=dw c1
 have c2:=dw c2
 have eb:=aM eb
 rw [gM,gM] at eb
 have yd:=uK.base S
 have ly:=y.length
 have ld:=uK.length
 have xJ:((az.sc.take az.hO).map (·.1)).length=az.hO:=by rw [cZ,zj,Rh xp]
 have xI:((az.sc.take az.hO).map (·.1)).Nodup:=Co ((List.take_sublist ..).map _) oB
 generalize AA:(az.sc.take az.hO).map (·.1)=names at*
 have AF:=(S.keep _ _ f1).1
 have Wu:s.heap.CodeRec fd.code fd.qualname:=f3.keeps λb E e=>(S.keep b E e).1
 have ya:=aW.append y (yd.drop (az.jg.length-(az.hO-B.length)))
 have Xw:V++dv.drop (dv.length-(names.length-V.length))=V++dv.drop (az.jg.length-(az.hO-B.length)):=by rw [xJ,ld,ly]
 have EK:((names.zip (V++dv.drop (az.jg.length-(az.hO-B.length)))).map (·.1))=names:=by
  rw [QU]
  rw [fy,rL,ld,ly,JB c2,wG c1,xJ]
  exact fG _
 generalize agv:V++dv.drop (az.jg.length-(az.hO-B.length))=iM at*
 generalize Xc:B++az.jg.drop (az.jg.length-(az.hO-B.length))=aac at*
 have M9:aac.length=az.hO:=by rw [<-Xc,fy,rL,JB c2,wG c1]
 have N_:∀(i:H) (x:ar) (k:dc) (mv:D),az.sc[i]?=some (x,k)->b[i]?=some (some mv)->∃v,(x,v)∈names.zip iM/\VR c w F C s.heap mv v:=by
  intro i x k mv h1 h2
  by_cases hi:i<az.hO
  .rw [<-eb,iD (by rw [cZ,M9];exact hi),tZ] at h2
   refine ay (zt.mp h2) λm h3 h4=>?_
   cases h4
   refine ay (ya.get h3) λv h5 h6=>?_
   refine⟨v,?_,h6⟩
   have:names[i]?=some x:=by rw [<-AA,tZ,List.getElem?_take,bT hi,h1];rfl
   exact dy (by rw [List.getElem?_zip_eq_some];exact⟨this,h5⟩:(names.zip iM)[i]?=some (x,v))
  .rw [<-eb,mS (by rw [cZ,M9];exact g7.mp hi),tZ] at h2
   refine ay (zt.mp h2) λm h3 h4=>?_
   exact aB h4
 have W6:∀x∈names.zip iM,fd.scope.names.lookup x.1=some .local\/(fd.scope.names.lookup x.1=some .cell/\((w_ (s.heap.objs.size+1) fd.scope.names []).lookup x.1).isSome=true):=by
  intro x hx
  have:x.1∈names:=by rw [<-EK];exact QZ hx
  rw [<-AA] at this
  obtain⟨⟨y0,k0⟩,h1,h2⟩:=cF.mp this
  have h3:=l9.mp f9 _ h1
  have h4:(y0,k0)∈az.sc:=List.mem_of_mem_take h1
  dsimp only at h2 h3
  rw [<-h2,f7]
  have h5:=A3 oB h4
  cases k0 with
  |«local»=>exact .inl h5
  |cell=>exact .inr ⟨h5,Ko (.inl h4)⟩
  |_=>exact bz h3
 refine codeAny_call_function E0 AF f2 g2 g3 f6 Wu ?_
 refine Te (names:=names) (dv:=dv) g1 f8 xI (λQ' LZ=>?_) (by rw [xJ,ly];exact c1) (by rw [xJ,ld,ly];exact c2) (by rw [xJ,ld];exact xq) ?_
 .rcases xr with⟨e1,e2⟩|⟨T',o',n',e1,e2,e3⟩
  .rw [e1]
   exact aO (bX (bX (LZ _ (by rw [e2];rfl))))
  .rw [e1]
   exact yV (S.keep _ _ e2).1 e3 (LZ _ (by simp))
 .rw [Xw,g4]
  refine wpAny_newFunctionEnv_cells f5 W6 λX he s' x=>⟨?_,codeAny_func ?_⟩
  .exact(T.lim.keeps λb E e=>x.toInCall.keep b E (S.keep b E e).1)
  .refine gK x.toInCall.same λh1 aZ pQ=>?_
   subst pQ
   have keep:∀b E,s.heap.get? b=some E->h1.get? b=some E:=x.toInCall.keep
   have hL:X.locals=s.heap.objs.size:=by rw [he];rfl
   have L_:X.cells=w_ (s.heap.objs.size+1) fd.scope.names []:=by rw [he];rfl
   have EV:X.scope.names=az.sc:=by rw [he];exact f7
   have Ww:(X.cells.map (·.1)).Nodup:=by
    rw [L_]
    refine TA (by rw [f7];exact oB) rO ?_
    intro x hx;cases hx
   have fresh:jx J s.heap h1 C (ownOf X):=by
    refine⟨keep,λb hb=>?_⟩
    rcases bY.mp hb with rfl|hb
    .refine⟨?_,Bf x.toInCall.ns⟩
     rw [hL];exact hV _
    .obtain⟨⟨n0,c0⟩,h2,h3⟩:=cF.mp hb
     dsimp only at h3
     rw [<-h3]
     have:=x.above n0 c0 h2
     refine⟨Qq (rS (by rw [hL] at this;exact this)),?_⟩
     refine ay (x.cell n0 c0 (A3 Ww h2)) λo0 Xd _=>?_
     exact⟨o0,Xd⟩
   have S1:St c w J (ownOf X++F) C o h1:=S.enter fresh
   have G1:dm c w (ownOf X++F) C h1 az.sc b X:=by
    refine⟨by rw [he];exact f5,EV,by rw [he];exact g5,by rw [he];exact g6,λb hb=>iR _ hb,⟨_,x.toInCall.ns,λi x0 mv h2 h3=>?_⟩,λi x0 h2=>?_,λx0 y0 I h2 h3=>?_,oB⟩
    .refine ay (N_ i x0 _ mv h2 h3) λv h4 h5=>?_
     refine⟨v,Tc (by rw [EK];exact xI) h4 ?_,h5.enter fresh⟩
     unfold y8
     rw [EV]
     exact A3 oB (dy h2)
    .have hc:=Ko (n:=s.heap.objs.size+1) (b_:=[]) (.inl (dy h2))
     rw [<-f7,<-L_] at hc
     refine bw (JC.mp hc) λI hc=>?_
     refine⟨I,_,hc,x.cell x0 I hc,λe=>?_,λmv h3=>?_⟩
     .have:=x.above x0 I (lookup_mem hc)
      rw [e] at this
      exact zo _ this
     .refine ay (N_ i x0 _ mv h2 h3) λv h4 h5=>?_
      refine⟨v,Ta (by rw [EK];exact xI) h4 ?_,h5.enter fresh⟩
      unfold y8
      rw [EV,A3 oB (dy h2)]
      intro z;cases z
    .exact name_of_addr x.apart (lookup_mem h2) (lookup_mem h3)
   have C1:Ctx c w J n (Y.deeper X) (ownOf X++F) C {s with heap:=h1,toks:=aZ} o ⟨az.sc,.none⟩ ⟨b,[]⟩ X:=⟨room X,S1,G1⟩
   refine hB _ X C1 _ _ λf bf h2 bS bp p2=>?_
   obtain⟨g,kE,dz,de,S2,G2,r2⟩:=p2
   have oV:bh [] C s.heap bf h2:=((bh.of_keeps keep).trans bp).more λb hb=>.inr (fresh.new b hb).1
   cases g with
   |next=>
    have r2:f=.next:=r2
    rw [r2]
    exact q .none bf h2 bS oV ⟨.none,dz,de,S2.leave,by rfl⟩
   |ret m=>
    obtain⟨v,rfl,r3⟩:∃v,f=.ret v/\VR c w (ownOf X++F) bf h2 m v:=r2
    exact q v bf h2 bS oV ⟨m,dz,de,S2.leave,r3.leave⟩
theorem Kg(Zk:bZ Z ae)(T:Top c w K W J mg mb)(Fi:nX c w J a az E fd dv)(bu:lZ ae c w J n O.ex)(E0:Y.depth<Hk)(room:∀X,eY n (Y.deeper X))(S:St c w J F C o s.heap)
  (y:aW c w F C s.heap B V) (hh:ae (uw Z O az B o k)) (q:∀v ao M tk,bh [] C s.heap ao M->PV ae c w J F k v ao M->R' (.ok (.ret v)) {s with heap:=M,toks:=tk}):lB (bK c w.w) Y (.call (.ref a) ⟨V,[]⟩) R' s:=by
 unfold uw at hh
 refine ay (gW Zk hh) λb eb hh=>?_
 exact zP T Fi E0 room S y eb (λs1 X aq=>ku bu az.body C s1 o ⟨b,[]⟩ _ aq hh) q
theorem eY.deep(room:eY (n+1) Y)(X:cK):eY n (Y.deeper X):=room.step rfl (ue _) (CF (by decide) _)
theorem eY.calls(room:eY n Y):Y.depth<Hk:=show Y.depth<1000 from zp (dQ (ig ..) (ig ..)) room.2.1
theorem Kh(Zk:bZ Z ae)(T:Top c w K W J mg mb)(Fi:nX c w J a az E fd dv)(bu:lZ ae c w J n O.ex)(room:eY (n+1) Y)(S:St c w J F C o s.heap)
  (y:aW c w F C s.heap B V) (hh:ae (uw Z O az B o k)):bc c w Y [] C s (call (.ref a) V) (PV ae c w J F k):=λQ au q=>
 B_ (Kg Zk T Fi bu room.calls room.deep S y hh λv ao M tk st p=>q v ao M tk st p)
end
end
section
variable{ag:Type}{Z:cU ag}{ae:ag->Prop}{c:a_}{w:WB}{Y:bG}{own F F' C ao:G aA}{s:aT}{J h M:aP}{o br:MH}{K:b8}{W:bQ}{mg mb:ar->aa aw}{n:H}{cx:Cx}{fr cy:Fm}{X:cK}{O:Ops ag}
theorem XN:Hv=rX "__init__" :=by decide+kernel
theorem ZD(Zk:bZ Z ae)(T:Top c w K W J mg mb)(hC:W.cls aq=some ms)(hi:g_ ms.1 Hv=some i)(Fi:nX c w J i az E fd dv)(bu:lZ ae c w J n O.ex)(room:eY (n+1) Y)(S:St c w J F C o s.heap)
  (y:aW c w F C s.heap B V) (hh:ae (Gb Z O aq az B o k)):bc c w Y [] C s (call (.ref aq) V) (PV ae c w J F k):=by
 intro Q au q
 have I:=T.cls aq ms hC
 unfold xa at I
 simp only [tR,qG,l9] at I
 obtain⟨⟨⟨⟨⟨⟨⟨c1,c2⟩,c3⟩,c4⟩,c5⟩,c6⟩,c7⟩,c8⟩:=I
 refine xA (c8 _ (qF hi)) λd1 d2=>?_
 dsimp only at d1 d2
 rw [XN] at d1
 have X0:=(T.ns S).2.2.1
 unfold Gb at hh
 obtain⟨kI,g,dr,t,os⟩:=s
 refine B_ (make_core (makes_of X0 c1) (looks_findIn X0 d1) (λself=>bind_fn X0 self d2) (.inl rfl) ?_)
 have D0:kI.get? kI.objs.size=none:=hV _
 refine xA (p_ (M:=kI.push D8) Zk S hh D0 (λb x e=>lh _ e) (λI st=>⟨.inl ⟨[],Cm ..,.nil,λp hp=>nomatch hp⟩,gD _⟩)) λaS p1=>?_
 refine PV.el p1 λm1 bM bR S1 x1=>?_
 have D1:(kI.push D8).get? (kI.objs.size+1)=none:=by
  have:=hV (kI.push D8)
  rwa [wq] at this
 have hp:(C++[kI.objs.size])[o.n]?=some kI.objs.size:=by rw [S.len];simp
 refine xA (p_ (M:=(kI.push D8).push (u4 aq kI.objs.size)) Zk S1 bR D1 (λb x e=>lh _ e) (λI st=>⟨kI.objs.size,st.pl _ _ hp,by heap_get⟩)) λbp p2=>?_
 refine PV.el p2 λm2 dz de S2 x2=>?_
 have Ma:(I0 "type.__call__" ⟨.ref aq::V,[]⟩).weight=1:=rfl
 have Wx:(I0 "type.__call__" ⟨.ref aq::V,[]⟩).cUnits=1:=rfl
 refine Kg (B:=m2::B) (o:=dz) (F:=F) (C:=C++[kI.objs.size]++[kI.objs.size+1]) Zk T Fi bu (Y:=Y.under (.builtin "type.__call__" ⟨.ref aq::V,[]⟩)) ?_ (λX=>?_) S2 (.cons x2 (((y.step aS)).step bp)) de λv dY h3 ey dp p3=>?_
 .refine(?_:Y.depth+_<_)
  rw [Ma]
  have:=room.2.1
  have:Hk=1000:=rfl
  lia
 .refine room.step rfl ?_ ?_
  .refine(?_:Y.depth+_+1<=_)
   rw [Ma]
   exact fG _
  .refine(?_:Y.units+_+3<=_)
   rw [Wx]
   lia
 .refine PV.el p3 λm3 hM dX S3 x3=>?_
  cases m3 with
  |none=>
   refine⟨x3,?_⟩
   exact q (.ref (kI.objs.size+1)) dY h3 ey (aS.trans (bp.trans dp)) ⟨m2,hM,dX,S3,x2.step dp⟩
  |_=>exact(Zk.fail dX).elim
end
section
variable(c:a_)(w:WB)(J:aP)
noncomputable def nV(eC a:H)(B:G D)(o:MH)(m:D)(br:MH):Prop:=
 ∀(Y:bG) (F C:G aA) (s:aT) (V:G aw),eY eC Y->St c w J F C o s.heap->aW c w F C s.heap B V->bc c w Y [] C s (call (.ref a) V) (λv ao M=>St c w J F ao br M/\VR c w F ao M m v)
noncomputable def iF(W:bQ):Prop:=∀a B o p,W.gX a B o=some p->nV c w J p.1 a B o p.2.1 p.2.2
noncomputable def qD(pull:H):Prop:=
 ∀(Y:bG) (F C:G aA) (s:aT) (o:MH) (j:H) (a:aA) (top:ba) (t:Tok),eY 20 Y->St c w J F C o s.heap->C[j]?=some a->o.t.get j=some .dj->0<top->top<8->
  bc c w Y [] C s (call (.ref pull) [.ref a,.int top t]) (λv ao M=>∃d t',d<top.toNat/\v=.int (.ofNat d) t'/\ao=C/\St c w J F C o M)
noncomputable def y9(W:bQ):Prop:=∀a az,W.fn a=some az->∃E fd dv,nX c w J a az E fd dv
end
section
variable{ag:Type}{Z:cU ag}{ae:ag->Prop}{c:a_}{w:WB}{Y:bG}{own F F' C ao:G aA}{s:aT}{J h M:aP}{o br:MH}{K:b8}{W:bQ}{mg mb:ar->aa aw}{n:H}{cx:Cx}{fr cy:Fm}{X:cK}{O:Ops ag}
theorem Tx(Zk:bZ Z ae)(T:Top c w K W J mg mb)(FT:y9 c w J W)(pj:iF c w J W)(P:qD c w J W.pull\/W.fn W.pull=none)(bu:lZ ae c w J n O.ex)(hl:O.lvl<=n):qu ae c w J (n+1) (DB Z W O):=by
 intro Y F C s o f fv B V k room S vf y hh
 have agt:∀{x:ag},ae x->x=Z.fail->dP:=λh e=>Zk.fail (e▸h)
 cases f with
 |bi b=>
  subst vf
  exact Tp room.1 Zk T S hh y
 |fn a=>
  subst vf
  unfold DB at hh
  dsimp only at hh
  generalize ho:W.gX a B o=ax at hh
  cases ax with
  |some p=>
   refine xA (iU (x:=Z.fail) Zk hh) λI hh=>?_
   have I:=dw I
   intro Q au q
   exact pj a B o p ho Y F C s V (room.le (by lia)) S y _ _ λv bq h1 aZ aS p1=>q v bq h1 aZ aS ⟨_,_,hh,p1.1,p1.2⟩
  |none=>
   dsimp only at hh
   unfold Ki at hh
   generalize hf:W.fn a=ax at hh
   cases ax with
   |some az=>
    dsimp only at hh
    refine gK (FT a az hf) λE fd bB=>bw bB λdv Fi=>?_
    generalize hp:bA a W.pull=ax at hh
    cases ax with
    |false=>
     exact Kh Zk T Fi bu room S y hh
    |true=>
     dsimp only at hh
     have ea:=dU hp
     unfold Kj at hh
     match B,y,hh with
     |[],y,hh=>exact(Zk.fail hh).elim
     |[_],y,hh=>exact(Zk.fail hh).elim
     |_::_::_::_,y,hh=>exact(Zk.fail hh).elim
     |[b,t],y,hh=>
      cases b with
      |ref j=>
       dsimp only at hh
       generalize hj:o.t.get j=ax at hh
       cases ax with
       |none=>exact(Zk.fail hh).elim
       |some oj=>
        cases oj with
        |dj=>
         cases t with
         |int top=>
          dsimp only at hh
          refine xA (bH Zk hh) λhc hh=>?_
          refine xA (aN.mp hc) λc1 c2=>?_
          refine xA (aN.mp c1) λc1 c3=>?_
          have c3:=(j5 _ _).mp c3
          have c1:=(j5 _ _).mp c1
          have c2:=dw c2
          refine dR.el y.cj λv1 r1 aE y1 y2=>?_;rw [aE]
          refine dR.el y2.cj λv2 r2 aE y3 y4=>?_;rw [aE]
          have e4:=y4.dW
          rw [e4]
          refine ay y1 ?_;clear y1;intro ad EJ aE;subst aE
          refine bw y3 ?_;clear y3;intro tk aI;subst aI
          refine dC P ?_ ?_<;>clear P<;>intro P
          .intro Q au q
           rw [ea]
           refine P Y F C s o j ad top tk (room.le (by lia)) S EJ hj c1 c3 _ _ λv bq h1 aZ aS p1=>?_
           refine eK p1 ?_;clear p1;intro d t' hd bU fV S1;subst bU;obtain rfl:=fV.symm
           exact q _ _ h1 aZ aS ⟨.int (.ofNat d),o,Zk.all _ _ hh d hd,S1,by exact⟨t',rfl⟩⟩
          .rw [ea,P] at hf;exact aB hf
         |_=>exact(Zk.fail hh).elim
        |_=>exact Kh Zk T Fi bu room S y hh
      |_=>exact(Zk.fail hh).elim
   |none=>
    refine ay (gW Zk hh) λms hC hh=>?_
    refine ay (gW Zk hh) λi hi hh=>?_
    refine ay (gW Zk hh) λaz hG hh=>?_
    refine gK (FT i az hG) λE fd bB=>bw bB λdv Fi=>?_
    exact ZD Zk T hC hi Fi bu room S y hh
 |_=>exact(Zk.fail hh).elim
end
section
variable{ag:Type}{Z:cU ag}{ae:ag->Prop}{c:a_}{w:WB}{Y:bG}{own F F' C ao:G aA}{s:aT}{J h M:aP}{o br:MH}{K:b8}{W:bQ}{mg mb:ar->aa aw}{n:H}{cx:Cx}{fr:Fm}{X:cK}{O:Ops ag}
theorem aeV(eZ:s.heap.IsTupleIter it t i)(ht:s.heap.IsTuple t ft)(hx:ft[i]?=some x)
  (q:∀M,M.IsTupleIter it t (i+1)->iC it s.heap M->Q x {s with heap:=M}):bo (bK c w.w) Y (tT (.ref it)) Q au s:=by
 refine fM (id eZ) λE ho hc hd=>?_
 obtain⟨ot,EY,_,nt,EP⟩:=ht
 unfold tT
 refine aO (PT (name:=rX "__next__") eZ.typeIs Ci (IC Ci eZ.typeIs Qn ?_ (Qm _)))
 refine(?_:bo _ _ (field (.ref it) 0>>=_) _ _ s)
 refine aO (tP ho hd (x:=.ref t) rfl ?_)
 refine(?_:bo _ _ (if(og t==zD)=true then _ else _) _ _ s)
 rw [bk (show ¬((og t==zD)=true) from fY)]
 refine(?_:bo _ _ (field (.ref it) 1>>=_) _ _ s)
 refine aO (tP ho hd (x:=.int i 0) rfl ?_)
 refine(?_:bo _ _ (tD (.ref t)>>=_) _ _ s)
 refine aO (yV EY EP ?_)
 simp only [Qw,hx]
 refine aO (wpAny_setField ho hd (by simp) (bX ⟨x,rfl,bX (q _ ?_ (o8 ..))⟩))
 exact⟨_,za _ ho (Obj.isFreed_of_fields (Ry hd _)),(Obj.cls_mapFields ..).trans hc,by
  rw [Ry hd];simp [rawInt]⟩
theorem aeX(hh:Y.handled=none)(eZ:s.heap.IsTupleIter it t i)(ht:s.heap.IsTuple t ft)(hx:ft[i]?=none)
  (q:∀M e,I5 it s.heap M->(∃E,M.get? e=some E/\E.cls=.type "StopIteration")->au (.ref e) {s with heap:=M}):bo (bK c w.w) Y (tT (.ref it)) Q au s:=by
 refine fM (id eZ) λE ho hc hd=>?_
 obtain⟨ot,EY,_,nt,EP⟩:=ht
 unfold tT
 refine aO (PT (name:=rX "__next__") eZ.typeIs Ci (IC Ci eZ.typeIs Qn ?_ (Qm _)))
 refine(?_:bo _ _ (field (.ref it) 0>>=_) _ _ s)
 refine aO (tP ho hd (x:=.ref t) rfl ?_)
 refine(?_:bo _ _ (if(og t==zD)=true then _ else _) _ _ s)
 rw [bk (show ¬((og t==zD)=true) from fY)]
 refine(?_:bo _ _ (field (.ref it) 1>>=_) _ _ s)
 refine aO (tP ho hd (x:=.int i 0) rfl ?_)
 refine(?_:bo _ _ (tD (.ref t)>>=_) _ _ s)
 refine aO (yV EY EP ?_)
 simp only [Qw,hx]
 refine aO (yU (aO (wpAny_setField ho hd (by simp) ?_)))
 refine(?_:bo _ _ (newExc (.type "StopIteration") []>>=_) _ _ _)
 refine aO ?_
 simp only [newExc,newTuple]
 refine aO (PU ?_ (by size_fits))
 refine aO (m:=firstArgMember _ _) (wpAny_of_eq (a:=zD) (by first|rfl|(simp only [firstArgMember];rfl)) ?_)
 refine PU ?_ (by size_fits)
 simp only [raiseNew]
 refine aO (wpAny_handled ?_)
 first|rw [show Y.in1.handled=none from hh]|rw [hh]
 refine aO (bX (wpAny_throw ?_))
 exact q _ _ (((o8 ..).extBut.push _).push _) ⟨_,hZ _ rfl,rfl⟩
theorem SI.item(S:St c w J F C o h)(x:SI c w F C h it i)(hi:i∈F)(e:e_ o it=some (some (m,dJ))):
  (∃a k ft v,h.IsListIter i a k/\h.IsList a ft/\ft[k]?=some v/\VR c w F C h m v/\∀M,M.IsListIter i a (k+1)->iC i h M->SI c w F C M dJ i)\/
  (∃a k ft v,h.IsTupleIter i a k/\h.IsTuple a ft/\ft[k]?=some v/\VR c w F C h m v/\∀M,M.IsTupleIter i a (k+1)->iC i h M->SI c w F C M dJ i):=by
 have hF:∀b∈[i],b∈F:=λb hb=>by rw [cA.mp hb];exact hi
 cases it with
 |lst j k=>
  refine ay x λa p1 g=>?_
  have e':(match listAt o j with|some B=>(match fJ B k with|some v=>some (some (v,It.lst j (cX k)))|.none=>some .none)|.none=>.none)=some (some (m,dJ)):=e
  unfold listAt at e'
  generalize e1:o.t.get j=ax at e'
  cases ax with
  |none=>exact aB e'
  |some E=>
   have r:=S.ref p1 e1
   cases E with
   |list b r'=>
    dsimp only at e'
    refine eO r λV n g0 y z=>?_
    generalize e2:fJ (rv r') k=ax at e'
    cases ax with
    |none=>cases e'
    |some v=>
     cases e'
     rw [oN,fD] at e2
     have y':aW c w F C h r'.reverse V.toList:=by have:=y.reverse;rwa [mU] at this
     refine ay (y'.get e2) λu hu vu=>?_
     exact .inl ⟨a,k,V,u,g,⟨_,g0,rfl,n,rfl⟩,by simpa using hu,vu,λM eZ _=>⟨a,p1,eZ⟩⟩
   |_=>exact aB e'
 |tup B=>
  obtain⟨t,V,n,j,sf,g,qi,y⟩:=x
  cases B with
  |nil=>cases e
  |cons m' B=>
   cases e
   obtain⟨u,r,z,vu,y2⟩:=y.cj
   refine xA (drop_cons z) λz1 z2=>?_
   have kJ:t≠i:=λz=>sf.1 (z▸hi)
   refine .inr ⟨t,j,V,u,qi,⟨_,g,rfl,n,rfl⟩,by simpa using z1,vu,λM eZ hs=>?_⟩
   have hx:∃E,M.get? i=some E:=let⟨E,ho,_⟩:=eZ;⟨E,ho⟩
   refine xA (S.turn hi hs hx) λst _=>?_
   exact⟨t,V,n,j+1,sf,(hs.2 t kJ).trans g,eZ,by rw [z2];exact y2.fx hF st⟩
 |bz B=>
  obtain⟨t,V,n,j,sf,g,qi,y⟩:=x
  cases B with
  |nil=>cases e
  |cons m' B=>
   cases e
   obtain⟨u,r,z,vu,y2⟩:=y.cj
   refine xA (drop_cons z) λz1 z2=>?_
   have kJ:t≠i:=λz=>sf.1 (z▸hi)
   refine .inl ⟨t,j,V,u,qi,⟨_,g,rfl,n,rfl⟩,by simpa using z1,vu,λM eZ hs=>?_⟩
   have hx:∃E,M.get? i=some E:=let⟨E,ho,_⟩:=eZ;⟨E,ho⟩
   refine xA (S.turn hi hs hx) λst _=>?_
   exact⟨t,V,n,j+1,sf,(hs.2 t kJ).trans g,eZ,by rw [z2];exact y2.fx hF st⟩
 |_=>exact x.elim
theorem SI.atEnd(S:St c w J F C o h)(x:SI c w F C h it i)(e:e_ o it=some none):
  (∃a k ft,h.IsListIter i a k/\h.IsList a ft/\ft[k]?=none)\/(∃a k ft,h.IsTupleIter i a k/\h.IsTuple a ft/\ft[k]?=none):=by
 cases it with
 |lst j k=>
  refine ay x λa p1 g=>?_
  have e':(match listAt o j with|some B=>(match fJ B k with|some v=>some (some (v,It.lst j (cX k)))|.none=>some .none)|.none=>.none)=some none:=e
  unfold listAt at e'
  generalize e1:o.t.get j=ax at e'
  cases ax with
  |none=>exact aB e'
  |some E=>
   have r:=S.ref p1 e1
   cases E with
   |list b r'=>
    dsimp only at e'
    refine eO r λV n g0 y z=>?_
    generalize e2:fJ (rv r') k=ax at e'
    cases ax with
    |some v=>cases e'
    |none=>
     rw [oN,fD] at e2
     have y':aW c w F C h r'.reverse V.toList:=by have:=y.reverse;rwa [mU] at this
     have:=y'.length
     rw [hX] at this
     rw [Jm] at e2
     exact .inl ⟨a,k,V,g,⟨_,g0,rfl,n,rfl⟩,IT (by lia)⟩
   |_=>exact aB e'
 |tup B=>
  obtain⟨t,V,n,j,sf,g,qi,y⟩:=x
  cases B with
  |nil=>exact .inr ⟨t,j,V,qi,⟨_,g,rfl,n,rfl⟩,by simpa using drop_nil y.dW⟩
  |cons m' B=>cases e
 |bz B=>
  obtain⟨t,V,n,j,sf,g,qi,y⟩:=x
  cases B with
  |nil=>exact .inl ⟨t,j,V,qi,⟨_,g,rfl,n,rfl⟩,by simpa using drop_nil y.dW⟩
  |cons m' B=>cases e
 |_=>exact x.elim
theorem SI.nextOf(S:St c w J F C o s.heap)(x:SI c w F C s.heap it i)(hi:i∈F)(e:e_ o it=some (some (m,dJ)))
  (q:∀v M,VR c w F C s.heap m v->SI c w F C M dJ i->iC i s.heap M->(∃E,M.get? i=some E)->Q v {s with heap:=M}):bo (bK c w.w) Y (tT (.ref i)) Q au s:=by
 rcases x.item S hi e with⟨a,k,ft,v,g1,g2,g3,vu,r⟩|⟨a,k,ft,v,g1,g2,g3,vu,r⟩
 .exact wpAny_nextOf_list_item g1 g2 g3 λM eZ hs=>q v M vu (r M eZ hs) hs (let⟨E,ho,_⟩:=eZ;⟨E,ho⟩)
 .exact aeV g1 g2 g3 λM eZ hs=>q v M vu (r M eZ hs) hs (let⟨E,ho,_⟩:=eZ;⟨E,ho⟩)
theorem SI.adY(hh:Y.handled=none)(S:St c w J F C o s.heap)(x:SI c w F C s.heap it i)(e:e_ o it=some none)
  (q:∀M a,I5 i s.heap M->(∃E,M.get? a=some E/\E.cls=.type "StopIteration")->au (.ref a) {s with heap:=M}):bo (bK c w.w) Y (tT (.ref i)) Q au s:=by
 rcases x.atEnd S e with⟨a,k,ft,g1,g2,g3⟩|⟨a,k,ft,g1,g2,g3⟩
 .exact wpAny_nextOf_list_end hh g1 g2 g3 q
 .exact aeX hh g1 g2 g3 q
end
section
variable{ag:Type}{Z:cU ag}{ae:ag->Prop}{c:a_}{w:WB}{Y:bG}{own F F' C ao:G aA}{s:aT}{J h M:aP}{o br:MH}{K:b8}{W:bQ}{mg mb:ar->aa aw}{n:H}{cx:Cx}{fr:Fm}{X:cK}{O:Ops ag}
theorem af3(e:e_ o (.zip a b)=some (some (m,dJ))):∃m1 a' m2 b',e_ o a=some (some (m1,a'))/\e_ o b=some (some (m2,b'))/\m=.tup [m1,m2]/\dJ=.zip a' b':=by
 have e:IK (e_ o a) (e_ o b)=_:=e
 generalize e1:e_ o a=ax at e
 cases ax with
 |none=>exact aB e
 |some x=>
  cases x with
  |none=>cases e
  |some p=>
   generalize e2:e_ o b=ax at e
   cases ax with
   |none=>exact aB e
   |some y=>
    cases y with
    |none=>cases e
    |some q=>
     cases e
     exact⟨p.1,p.2,q.1,q.2,rfl,rfl,rfl,rfl⟩
theorem af2(e:e_ o (.zip a b)=some none):e_ o a=some none\/∃m1 a',e_ o a=some (some (m1,a'))/\e_ o b=some none:=by
 have e:IK (e_ o a) (e_ o b)=_:=e
 generalize e1:e_ o a=ax at e
 cases ax with
 |none=>exact aB e
 |some x=>
  cases x with
  |none=>exact .inl rfl
  |some p=>
   generalize e2:e_ o b=ax at e
   cases ax with
   |none=>exact aB e
   |some y=>
    cases y with
    |none=>exact .inr ⟨p.1,p.2,rfl,rfl⟩
    |some q=>cases e
theorem St.yN(S:St c w J F C o h)(hF:∀b∈own,b∈F)(ha:a∈own)(hs:iC a h M)(hx:∃E,M.get? a=some E):bh own C h C M/\St c w J F C o M:=by
 obtain⟨st,S'⟩:=S.turn (hF a ha) hs hx
 exact⟨st.sub λb hb=>by rw [cA.mp hb];exact ha,S'⟩
set_option backward.match.sparseCases true in
noncomputable def IJ(z TO:aA)(bu:iT (rG (aa Fin×mX)))(g9:aw×H->iT (rG (aa Fin×mX)))(a:aw×H):iT (rG (aa Fin×mX)):=do
 let y <-(do let v <-tT a.1;pure (some v)).onRaise λ_=>setField (.ref z) 0 .none
 match y with
 |some v=>do
  let kp <-tD (.ref TO)
  match kp with
  |some FD=>do
   updateSeq TO λB=>B.setIfInBounds a.2 v
   letGo [FD.getD a.2 .none]
   pure (.yield (none,()))
  |_=>bu
 |none=>g9 a
set_option backward.match.sparseCases true in
noncomputable def P2(z TO:aA)(bu:iT Fin):iT Fin:=do
 let kp <-tD (.ref TO)
 match kp with
 |some FD=>do
  let r <-newTuple FD.toList
  Builtin.SmallTypes.ownedTupleHandOut (.ref z) r
  ret r
 |_=>bu
theorem P5{Q:aa aw->aT->Prop}(hz:tY s.heap z TI TO .none)(uP:wu s.heap TI (.ref i1) (.ref i2))
  (k:∀(oF:aP) (aV:aw×H->aa Fin×mX->iT (rG (aa Fin×mX))) (f:aa Fin×mX->iT Fin) bu g9 X' (QQ:Fin->aT->Prop) (EE:aw->aT->Prop),tY oF z TI TO .ellipsis->iC z s.heap oF->
   (∀Y a r Q au s,bo (bK c w.w) Y (IJ z TO bu g9 a) Q au s->bo (bK c w.w) Y (aV a r) Q au s)->
   (∀Y Q au s,bo (bK c w.w) Y (P2 z TO X') Q au s->bo (bK c w.w) Y (f (none,())) Q au s)->
   (∀v s',Q (some v) s'->QQ (.done (.ret v)) s')->(∀a s',(∃E,s'.heap.get? a=some E/\E.cls=.type "StopIteration")->Q none s'->EE (.ref a) s')->
   bo (bK c w.w) Y.in1 (sE [og i1,og i2].zipIdx (none,()) aV) (λr s'=>bo (bK c w.w) Y.in1 (f r) QQ EE s') EE {s with heap:=oF}):bo (bK c w.w) Y (qh (.ref z)) Q au s:=by
 have hT:s.TypeIs (.ref z) "zip" :=⟨_,hz,rfl⟩
 unfold qh
 refine aO (PS (PT (name:=rX "__next__") hT F.slot_zip_next (IC F.slot_zip_next hT F.entry_zip_next ?_ (F.args_zip_next_1 _))))
 refine gQ λQQ EE hQ hE=>?_
 refine(?_:bo _ _ (field (.ref z) 2>>=_) _ _ _)
 refine aO (tP hz rfl (x:=.bool false) rfl ?_)
 refine(?_:bo _ _ (field (.ref z) 3>>=_) _ _ _)
 refine aO (tP hz rfl (x:=.ref TI) rfl (aO (yV uP rfl ?_)))
 refine(?_:bo _ _ (Builtin.SmallTypes.ownedTupleIsFree (.ref z)>>=_) _ _ _)
 refine aO (aO (tP hz rfl (x:=.none) rfl (bX ?_)))
 rw [bT rfl]
 refine aO (yU (aO (tP hz rfl (x:=.ref TO) rfl (aO (IH hz (CN 4) λoF qV kK=>aO ?_)))))
 exact k oF _ _ _ _ _ QQ EE qV kK (λY a r Q au s x=>x) (λY Q au s x=>x) (λv s' q=>hQ _ _ ⟨_,rfl,bX q⟩)
  λa s' he q=>hE _ _ (he.elim λE ho=>aO (wpAny_isInstance (T:="StopIteration") (b:=true) ⟨E,ho.1,ho.2⟩ isSubtype_stop (bX q)))
theorem IM{bu g9}{Q:rG (aa Fin×mX)->aT->Prop}(S:St c w J F C o s.heap)(x:SI c w F C s.heap it i)(hF:∀b∈[i,TO],b∈F)(ni:TO≠i)(e:e_ o it=some (some (m,dJ)))(sH:wu s.heap TO xx yy)
  (q:∀v M,VR c w F C M m v->SI c w F C M dJ i->(∀b,b≠i->b≠TO->M.get? b=s.heap.get? b)->bh [i,TO] C s.heap C M->St c w J F C o M->M.get? TO=some {cls:=.type "tuple",data:=.seq ((#[xx,yy]:dS aw).setIfInBounds k v)}->Q (.yield (none,())) {s with heap:=M}):
  bo (bK c w.w) Y (IJ z TO bu g9 (.ref i,k)) Q au s:=by
 refine aO (IG (aO (SI.nextOf S x (hF _ (.head _)) e λv E9 vu x2 uW XA=>bX ?_)))
 refine xA (S.yN hF (.head _) uW XA) λt2 S2=>?_
 have L0:wu E9 TO xx yy:=(uW.2 _ ni).trans sH
 refine aO (yV L0 rfl (aO (wpAny_updateSeq_pair L0 λsM Ap uX=>aO (wpAny_letGo (bX ?_)))))
 refine xA (S2.yN hF (.tail _ (.head _)) uX ⟨_,Ap⟩) λt3 S3=>?_
 exact q v sM (vu.fx hF (t2.trans t3)) (x2.step hF t3 λE e=>(uX.2 _ ni.symm).trans e) (λb b1 b2=>(uX.2 b b2).trans (uW.2 b b1)) (t2.trans t3) S3 Ap
theorem af4{bu}{Q:Fin->aT->Prop}(hz:tY s.heap z TI TO I)(sH:wu s.heap TO v1 v2)
  (q:∀T AJ M,(∀b E,s.heap.get? b=some E->AJ.get? b=some E)->s.heap.get? T=none->AJ.get? T=some (kX #[v1,v2] 0)->tY M z TI TO (rawInt T)->iC z AJ M->Q (.done (.ret (.ref T))) {s with heap:=M}):
  bo (bK c w.w) Y (P2 z TO bu) Q au s:=by
 refine aO (yV sH rfl (aO (wpAny_newTuple ?_)))
 have XC:=fK s.heap {cls:=.type "tuple",data:=.seq #[v1,v2]} _ _ hz
 refine aO (aO (IH XC (CN 4) λagy XD Xq=>IH XD (zr (CN 3)) λE_ E8 E4=>?_))
 exact bX (q _ _ E_ (fK _ _) (hV _) (hZ _ rfl) E8 (Xq.trans E4))
theorem J2{z TI TO i1 i2:aA}(nd:[z,TI,TO,i1,i2].Nodup):(z≠TI/\z≠TO/\z≠i1/\z≠i2)/\(TI≠TO/\TI≠i1/\TI≠i2)/\(TO≠i1/\TO≠i2)/\i1≠i2:=by
 simpa only [ic,bY,eP,gH,not_or,rO,and_true,aaE] using nd
theorem P4:zE c w J:=by
 intro Y F C own s o a b dJ v m t Q' au E' S hF x ht e q
 obtain⟨m1,a',m2,b',e1,e2,rm,ri⟩:=af3 e
 rw [rm,ri] at q
 obtain⟨z,TI,TO,i1,i2,xx,yy,rv,ro,nd,hz,uP,sH,s1,s2⟩:=x
 subst rv ro
 obtain⟨agh,kd,pos,rfl⟩:=ht
 refine eN (J2 nd) λz1 z2 z3 z8=>eN z1 λd1 d2 d3 d4=>cf z2 λd5 d6 d7=>xA z3 λd8 d9=>?_
 have mz:z∈[z,TI,TO,i1,i2]:=.head _
 have sub:∀i∈[i1,i2],∀b∈[i,TO],b∈[z,TI,TO,i1,i2]:=λi hi b hb=>(bY.mp hb).elim (λq=>q▸.tail _ (.tail _ (.tail _ hi))) λhb=>cA.mp hb▸.tail _ (.tail _ (.head _))
 refine P5 hz uP λoF aV f bu g9 X' QQ EE qV kK hB hf hQ _=>?_
 refine xA (S.yN hF mz kK ⟨_,qV⟩) λt1 S1=>?_
 rw [CA,o_]
 refine aO (hB _ _ _ _ _ _ (IM (s:={s with heap:=oF}) S1 (s1.step hF t1 λE e=>(kK.2 _ (n7 d3)).trans e) (λb hb=>hF b (sub _ (.head _) b hb)) d8 e1 ((kK.2 _ (n7 d2)).trans sH) λv1 sM afg acK k3 t3 S3 Ap=>?_))
 have t3:=t3.sub (sub _ (.head _))
 dsimp only
 rw [CA,o_]
 refine aO (hB _ _ _ _ _ _ (IM (s:={s with heap:=sM}) S3 (s2.step hF (t1.trans t3) λE e=>(k3 _ (n7 z8) (n7 d9)).trans ((kK.2 _ (n7 d4)).trans e)) (λb hb=>hF b (sub _ (.tail _ (.head _)) b hb)) d9 e2 Ap λv2 Mo afh acM k5 t5 S5 L4=>?_))
 have t5:=t5.sub (sub _ (.tail _ (.head _)))
 dsimp only
 rw [List.zipIdx_nil,wz]
 refine bX (hf _ _ _ _ (af4 (s:={s with heap:=Mo}) ((k5 _ d4 d2).trans ((k3 _ d3 d2).trans qV)) L4 λT AJ E_ k6 n6 gT E8 E4=>hQ _ _ ⟨_,rfl,wpAny_letOwnedTupleGo_zip (s:={s with heap:=E_}) E8 λMp Mm Xr=>?_⟩))
 have hs:=E4.trans Xr
 refine xA (S5.grow k6) λt6 S6=>?_
 refine xA (S6.yN hF mz hs ⟨_,Mm⟩) λt9 S9=>?_
 have yG:=(t6.any (own:=[z,TI,TO,i1,i2])).trans t9
 have OB:cM F C T:=⟨(S5.lO n6).2.1,(S5.lO n6).1⟩
 have pB:∀b,b≠z->∀E,Mo.get? b=some E->Mp.get? b=some E:=λb hb E e=>(hs.2 _ hb).trans (k6 _ E e)
 refine q (.ref T) Mp _ (((t1.trans t3).trans t5).trans yG) S9 ?_ ?_
 .exact⟨T,#[v1,v2],0,rfl,OB,(hs.2 T λq=>OB.1 (q.symm▸hF _ mz)).trans gT,.cons (afg.fx hF (t5.trans yG)) (.one (afh.fx hF yG))⟩
 .exact .mk z TI TO i1 i2 v1 v2 rfl rfl nd Mm (pB _ d1.symm _ ((k5 _ d7 d5).trans ((k3 _ d6 d5).trans ((kK.2 _ d1.symm).trans uP)))) (pB _ d2.symm _ L4)
   (acK.step hF (t5.trans yG) λE e=>pB _ d3.symm _ ((k5 _ z8 d8.symm).trans e)) (acM.step hF yG λE e=>pB _ d4.symm _ e)
end
section
variable{ag:Type}{Z:cU ag}{ae:ag->Prop}{c:a_}{w:WB}{Y:bG}{own F F' C ao:G aA}{s:aT}{J h M:aP}{o br:MH}{K:b8}{W:bQ}{mg mb:ar->aa aw}{n:H}{cx:Cx}{fr:Fm}{X:cK}{O:Ops ag}
theorem P7{bu g9}{Q:rG (aa Fin×mX)->aT->Prop}(hh:Y.handled=none)(S:St c w J F C o s.heap)(x:SI c w F C s.heap it i)(e:e_ o it=some none)(hz:tY s.heap z TI TO I)(ni:z≠i)
  (q:∀M ea,(∀b,b≠i->b≠z->∀E,s.heap.get? b=some E->M.get? b=some E)->(∃E,M.get? ea=some E/\E.cls=.type "StopIteration")->au (.ref ea) {s with heap:=M}):bo (bK c w.w) Y (IJ z TO bu g9 (.ref i,k)) Q au s:=by
 refine aO (IG (aO (SI.adY hh S x e λE9 ea uW he=>?_)))
 refine ay he λoe EX EN=>?_
 have Ml:tY E9 z TI TO I:=uW _ _ ni hz
 refine IH Ml (CN 4) λsM agx uX=>q sM ea (λb b1 b2 E e=>(uX.2 b b2).trans (uW b E b1 e)) ⟨oe,(uX.2 _ λx=>?_).trans EX,EN⟩
 rw [x,Ml] at EX
 rw [<-aM EX] at EN
 exact bP (Value.type.inj EN) (by decide)
theorem P6:zF c w J:=by
 intro Y F C own s o a b v Q au hh S hF x e q
 obtain⟨z,TI,TO,i1,i2,xx,yy,rv,ro,nd,hz,uP,sH,s1,s2⟩:=x
 subst rv ro
 refine eN (J2 nd) λz1 z2 z3 z8=>eN z1 λd1 d2 d3 d4=>cf z2 λd5 d6 d7=>xA z3 λd8 d9=>?_
 have mz:z∈[z,TI,TO,i1,i2]:=.head _
 have sub:∀i∈[i1,i2],∀b∈[i,TO],b∈[z,TI,TO,i1,i2]:=λi hi b hb=>(bY.mp hb).elim (λq=>q▸.tail _ (.tail _ (.tail _ hi))) λhb=>cA.mp hb▸.tail _ (.tail _ (.head _))
 refine P5 hz uP λoF aV f bu g9 X' QQ EE qV kK hB hf _ hE=>?_
 refine xA (S.yN hF mz kK ⟨_,qV⟩) λt1 S1=>?_
 have out:∀b,b∉[z,TI,TO,i1,i2]->∀i∈[z,TI,TO,i1,i2],b≠i:=λb nb i hi q=>nb (q▸hi)
 have m1:i1∈[z,TI,TO,i1,i2]:=sub i1 (.head _) _ (.head _)
 have m2:i2∈[z,TI,TO,i1,i2]:=sub i2 (.tail _ (.head _)) _ (.head _)
 have s1:=s1.step hF t1 λE e=>(kK.2 _ (n7 d3)).trans e
 rw [CA,o_]
 refine aO (hB _ _ _ _ _ _ ?_)
 rcases af2 e with e1|⟨agM,a',e1,e2⟩
 .exact P7 (Y:=Y.in1) (s:={s with heap:=oF}) hh S1 s1 e1 qV d3 λM ea k he=>hE _ _ he (q M λb E nb e=>k b (out b nb _ m1) (out b nb _ mz) E ((kK.2 b (out b nb _ mz)).trans e))
 .refine IM (s:={s with heap:=oF}) S1 s1 (λb hb=>hF b (sub _ (.head _) b hb)) d8 e1 ((kK.2 _ (n7 d2)).trans sH) λv1 sM _ _ k3 t3 S3 _=>?_
  dsimp only
  rw [CA,o_]
  refine aO (hB _ _ _ _ _ _ (P7 (Y:=Y.in1) (s:={s with heap:=sM}) hh S3 (s2.step hF (t1.trans (t3.sub (sub _ (.head _)))) λE e=>(k3 _ (n7 z8) (n7 d9)).trans ((kK.2 _ (n7 d4)).trans e)) e2 ((k3 _ d3 d2).trans qV) d4 λM ea k he=>hE _ _ he (q M λb E nb e=>?_)))
  exact k b (out b nb _ m2) (out b nb _ mz) E ((k3 b (out b nb _ m1) (out b nb _ (.tail _ (.tail _ (.head _))))).trans ((kK.2 b (out b nb _ mz)).trans e))
end
noncomputable def wx(v:aw)(E:jy)(h:aP):Prop:=
 ∀(c:a_) (w:dF) (Y:bG) (s:aT) (Q au:aw->aT->Prop),(∀b x,h.get? b=some x->s.heap.get? b=some x)->Q (.ref s.heap.objs.size) {s with heap:=s.heap.push E}->bo (bK c w) Y (oQ v) Q au s
noncomputable abbrev zz(h:aP)(o1 o2:jy):aP:=((((h.push o1).push o2).push {cls:=.type "tuple",data:=.seq #[.ref h.objs.size,.ref (h.push o1).objs.size]}).push {cls:=.type "tuple",data:=.seq #[.none,.none]}).push
 {cls:=.type "zip",data:=.fields #[.none,.bool false,.bool false,.ref ((h.push o1).push o2).objs.size,.ref (((h.push o1).push o2).push {cls:=.type "tuple",data:=.seq #[.ref h.objs.size,.ref (h.push o1).objs.size]}).objs.size]}
theorem ZU(v1 v2:aw):Meets (nT.«zip.__new__» ⟨[.type "zip",v1,v2],[]⟩) (λ_ ag s=>∃o1 o2,wx v1 o1 s.heap/\wx v2 o2 s.heap/\
  ag (.ok (.ret (.ref ((((s.heap.push o1).push o2).push {cls:=.type "tuple",data:=.seq #[.ref s.heap.objs.size,.ref (s.heap.push o1).objs.size]}).push {cls:=.type "tuple",data:=.seq #[.none,.none]}).objs.size))) {s with heap:=zz s.heap o1 o2}):=
 .of_wp λc w Y ag s h=>by
  obtain⟨hp,g,d,tk,os⟩:=s
  refine eO h ?_;clear h;intro o1 o2 i1 i2 h
  have agu:=sub_zip
  have I1:∀{Y:bG} {Q au:aw->aT->Prop},Q (.ref hp.objs.size) ⟨hp.push o1,g,d,tk,os⟩->bo (bK c w) Y (oQ v1) Q au ⟨hp,g,d,tk,os⟩:=λ{Y Q au} q=>i1 c w Y ⟨hp,g,d,tk,os⟩ Q au (λ_ _ e=>e) q
  have I2:∀{Y:bG} {Q au:aw->aT->Prop},Q (.ref (hp.push o1).objs.size) ⟨(hp.push o1).push o2,g,d,tk,os⟩->bo (bK c w) Y (oQ v2) Q au ⟨hp.push o1,g,d,tk,os⟩:=λ{Y Q au} q=>i2 c w Y ⟨hp.push o1,g,d,tk,os⟩ Q au (λb x e=>fK _ _ b x e) q
  clear i1 i2
  wp_walk using I1,I2
  exact⟨_,rfl,h⟩
section
variable{ag:Type}{Z:cU ag}{ae:ag->Prop}{c:a_}{w:WB}{Y:bG}{own az C ao:G aA}{s:aT}{J h M:aP}{o br:MH}{K:b8}{W:bQ}{mg mb:ar->aa aw}{n:H}{cx:Cx}{fr:Fm}{X:cK}{O:Ops ag}
theorem OQ(S:St c w J az C o h)(e:pV o m=some it)(x:VR c w az C h m v):
  ∃E:jy,wx v E h/\E.isFreed=false/\∀new M i,jx J h M C new->M.get? i=some E->SI c w (new++az) C M it i:=by
 cases m with
 |tup B=>
  cases e
  refine gr.el x.gj λt V n bU sf g y=>?_;subst bU
  refine⟨{cls:=.type "tuple_iterator",data:=.fields #[.ref t,.int 0 0]},λc w Y s Q au k q=>afz ⟨_,k _ _ g,rfl,n,rfl⟩ q,rfl,λnew M i f hi=>?_⟩
  refine xA (pH f _ _ g sf) λg' j8=>?_
  exact⟨t,V,n,0,j8,g',⟨_,hi,rfl,rfl⟩,by rw [Cq];exact y.enter f⟩
 |ref i=>
  have e':(match o.t.get i with|some E=>(match E with|.list _ _=>some (It.lst i 0)|_=>.none)|.none=>.none)=some it:=e
  refine ay x ?_;clear x;intro a p1 aE;subst aE
  generalize e1:o.t.get i=ax at e'
  cases ax with
  |none=>exact aB e'
  |some E=>
   have r:=S.ref p1 e1
   cases E with
   |list b r'=>
    cases e'
    refine eO r λV n g y z=>?_
    exact⟨{cls:=.type "list_iterator",data:=.fields #[.ref a,.int 0 0]},λc w Y s Q au k q=>Ca ⟨_,k _ _ g,rfl,n,rfl⟩ q,rfl,λnew M j f hj=>⟨a,p1,_,hj,rfl,rfl⟩⟩
   |_=>exact aB e'
 |aD I B=>
  cases I with
  |list b=>
   cases e
   refine dO x λt V n bU bB=>eN bB λsf g _ dA=>xA dA λ_ y=>?_;subst bU
   refine⟨{cls:=.type "list_iterator",data:=.fields #[.ref t,.int 0 0]},λc w Y s Q au k q=>Ca ⟨_,k _ _ g,rfl,n,rfl⟩ q,rfl,λnew M i f hi=>?_⟩
   refine xA (pH f _ _ g sf) λg' j8=>?_
   exact⟨t,V,n,0,j8,g',⟨_,hi,rfl,rfl⟩,by rw [Cq];exact y.enter f⟩
  |_=>exact aB e
 |_=>exact aB e
theorem IL:pw ae c w J:=by
 intro Y FF C s o m1 m2 v1 v2 a b k Q au E' hh S e1 e2 x1 x2 hk q
 refine fM (OQ S e1 x1) λo1 p1 f1 r1=>?_
 refine fM (OQ S e2 x2) λo2 p2 f2 r2=>?_
 have z1:(s.heap.push o1).objs.size=s.heap.objs.size+1:=wq ..
 have z2:((s.heap.push o1).push o2).objs.size=s.heap.objs.size+2:=by rw [wq,z1]
 refine callType_new (S:=λ_ ag s=>∃o1 o2,wx v1 o1 s.heap/\wx v2 o2 s.heap/\
  ag (.ok (.ret (.ref ((((s.heap.push o1).push o2).push {cls:=.type "tuple",data:=.seq #[.ref s.heap.objs.size,.ref (s.heap.push o1).objs.size]}).push {cls:=.type "tuple",data:=.seq #[.none,.none]}).objs.size))) {s with heap:=zz s.heap o1 o2})
  F.called_zip (by decide) (F.typeCall_zip_2 _ _) (F.newCall_zip_2 _ _) (λobj=>F.args_object_init_3 obj _ _) F.entry_zip_new (ZU v1 v2) ⟨o1,o2,p1,p2,?_⟩
 have g1:(zz s.heap o1 o2).get? s.heap.objs.size=some o1:=lh _ (lh _ (lh _ (lh _ (hZ _ f1))))
 have g2:(zz s.heap o1 o2).get? (s.heap.push o1).objs.size=some o2:=lh _ (lh _ (lh _ (hZ _ f2)))
 have g3:(zz s.heap o1 o2).get? ((s.heap.push o1).push o2).objs.size=some {cls:=.type "tuple",data:=.seq #[.ref s.heap.objs.size,.ref (s.heap.push o1).objs.size]}:=lh _ (lh _ (hZ _ rfl))
 have kp:∀b E,s.heap.get? b=some E->(zz s.heap o1 o2).get? b=some E:=λb E e=>fK _ _ _ _ (fK _ _ _ _ (fK _ _ _ _ (fK _ _ _ _ (fK _ _ _ _ e))))
 have z3:(((s.heap.push o1).push o2).push {cls:=.type "tuple",data:=.seq #[.ref s.heap.objs.size,.ref (s.heap.push o1).objs.size]}).objs.size=s.heap.objs.size+3:=by rw [wq,z2]
 have z4:((((s.heap.push o1).push o2).push {cls:=.type "tuple",data:=.seq #[.ref s.heap.objs.size,.ref (s.heap.push o1).objs.size]}).push {cls:=.type "tuple",data:=.seq #[.none,.none]}).objs.size=s.heap.objs.size+4:=by rw [wq,z3]
 have g4:(zz s.heap o1 o2).get? (((s.heap.push o1).push o2).push {cls:=.type "tuple",data:=.seq #[.ref s.heap.objs.size,.ref (s.heap.push o1).objs.size]}).objs.size=some {cls:=.type "tuple",data:=.seq #[.none,.none]}:=lh _ (hZ _ rfl)
 have g5:(zz s.heap o1 o2).get? ((((s.heap.push o1).push o2).push {cls:=.type "tuple",data:=.seq #[.ref s.heap.objs.size,.ref (s.heap.push o1).objs.size]}).push {cls:=.type "tuple",data:=.seq #[.none,.none]}).objs.size=some {cls:=.type "zip",data:=.fields #[.none,.bool false,.bool false,.ref ((s.heap.push o1).push o2).objs.size,.ref (((s.heap.push o1).push o2).push {cls:=.type "tuple",data:=.seq #[.ref s.heap.objs.size,.ref (s.heap.push o1).objs.size]}).objs.size]}:=hZ _ rfl
 have yF:∀k,s.heap.get? (s.heap.objs.size+k)=none:=λk=>Qq (ig _ _)
 refine(?_:_/\_)
 generalize zz s.heap o1 o2=lg at*
 rw [z1] at g2
 rw [z1,z2] at g3
 rw [z3] at g4
 rw [z2,z3,z4] at g5
 rw [z4]
 generalize s.heap.objs.size=aV at*
 refine⟨⟨_,g5,rfl⟩,?_⟩
 refine wpAny_pyIter_zip (s:={s with heap:=lg}) (z:=aV+4) (TI:=aV+2) (TO:=aV+3) (f0:=.none) g5 ?_
 have sz:s.heap.get? aV=none/\s.heap.get? (aV+1)=none/\s.heap.get? (aV+2)=none/\s.heap.get? (aV+3)=none/\s.heap.get? (aV+4)=none:=⟨yF 0,yF 1,yF 2,yF 3,yF 4⟩
 have fr:jx J s.heap lg C [aV+4,aV+2,aV+3,aV,aV+1]:=by
  refine⟨kp,λb hb=>?_⟩
  simp only [bY,eP,gH] at hb
  rcases hb with rfl|rfl|rfl|rfl|rfl
  .exact⟨sz.2.2.2.2,_,g5⟩
  .exact⟨sz.2.2.1,_,g3⟩
  .exact⟨sz.2.2.2.1,_,g4⟩
  .exact⟨sz.1,_,g1⟩
  .exact⟨sz.2.1,_,g2⟩
 have nd:[aV+4,aV+2,aV+3,aV,aV+1].Nodup:=by
  simp only [ic,bY,eP,gH,not_or,rO,and_true,aaE]
  refine⟨⟨?_,?_,?_,?_⟩,⟨?_,?_,?_⟩,⟨?_,?_⟩,?_⟩<;>(intro e;have e:(_:H)=_:=e;lia)
 exact q (.ref (aV+4)) lg s.toks ⟨.zip a b,[aV+4,aV+2,aV+3,aV,aV+1],o,s.heap,.refl ..,S,fr,nd,⟨aV+4,aV+2,aV+3,aV,aV+1,.none,.none,rfl,rfl,nd,g5,g3,g4,r1 _ _ _ fr g1,r2 _ _ _ fr g2⟩,hk⟩
end
section
variable{ag:Type}{Z:cU ag}{ae:ag->Prop}{c:a_}{w:WB}{Y:bG}{own F F' C ao:G aA}{s:aT}{J h M:aP}{o br:MH}{K:b8}{W:bQ}{mg mb:ar->aa aw}{n:H}{cx:Cx}{fr cy:Fm}{X:cK}{O:Ops ag}
structure Sound{ag:Type}(ae:ag->Prop)(c:a_)(w:WB)(J:aP)(n:H)(E:Ops ag):Prop where
 ev:fm ae c w J n E.ev
 fh:mW ae c w J n E.fh
 ex:lZ ae c w J n E.ex
 call:qu ae c w J n E.call
 iO:wO ae c w J n E.iO
 forL:wm ae c w J n E.forL
 cmp:qw ae c w J n E.cmp
 lvl:E.lvl<=n
theorem adH(Zk:bZ Z ae)(T:Top c w K W J mg mb)(FT:y9 c w J W)(pj:iF c w J W)(P:qD c w J W.pull\/W.fn W.pull=none)(bl:Sound ae c w J n O):Sound ae c w J (n+1) (Om Z W O (n+1)) where
 ev:=Vl Zk T IL bl.ev bl.fh bl.call bl.cmp
 fh:=λY F C s o cx e fr X k aq hh=>aeT Zk T bl.ev bl.fh aq.lower hh
 ex:=Vm Zk T IL bl.ev bl.fh bl.ex bl.iO bl.forL bl.cmp
 call:=Tx Zk T FT pj P bl.ex bl.lvl
 iO:=aft Zk bl.ex bl.fh bl.iO
 forL:=VX Zk T P4 P6 bl.ex bl.forL
 cmp:=TP Zk T P4 P6 IL bl.ev bl.fh bl.cmp
 lvl:=fG _
theorem adG(Zk:bZ Z ae):Sound ae c w J 0 (Lv Z) where
 ev:=λY F C s o cx e fr X k aq hh=>(Zk.fail hh).elim
 fh:=λY F C s o cx e fr X k aq hh=>(Zk.fail hh).elim
 ex:=λY F C s o cx e fr X k aq hh=>(Zk.fail hh).elim
 call:=λY F C s o f fv B V k r S vf y hh=>(Zk.fail hh).elim
 iO:=λY F C s o cx t b fr X k R' aq hh=>(Zk.fail hh).elim
 forL:=λY F k9 C own h0 s o cx t it eF b fr X k R' aq hd hF x oV qS hh=>(Zk.fail hh).elim
 cmp:=λY F k9 C own h0 s o cx cQ t i di gN gs dH pos kq it eF bj b_ fr X k R' hg Av aq hd hF hD xC x dl oV qS hh=>(Zk.fail hh).elim
 lvl:=fG _
theorem sound(Zk:bZ Z ae)(T:Top c w K W J mg mb)(FT:y9 c w J W)(pj:iF c w J W)(P:qD c w J W.pull\/W.fn W.pull=none)(n:H):Sound ae c w J n (run Z W n):=by
 induction n with
 |zero=>exact adG Zk
 |succ n O=>exact adH Zk T FT pj P O
end
noncomputable def hJ(R:G (D×D)):G ar:=@b9 (D×D) (λ_=>G ar) [] (λp _ O=>match p.1 with
 |.str x=>x::O
 |_=>O) R
noncomputable def mapA{α β:Type}(f:α->β)(B:G α):G β:=@b9 α (λ_=>G β) [] (λa _ O=>f a::O) B
noncomputable def kF(o:MH)(n:H):D->D:=@nZ (λ_=>D->D) (λ_=>.any) (λ_ f m=>match m with
 |.ref i=>match o.t.get i with
  |some E=>match E with
   |.list b r=>.aD (.list b) (mapA f (rv r))
   |.dict R=>.aD (.dict (hJ R)) (mapA (λp=>f p.2) R)
   |.inst aq d=>match o.t.get d with
    |some E=>match E with
     |.dict R=>.aD (.inst aq (hJ R)) (mapA (λp=>f p.2) R)
     |_=>.any
    |.none=>.any
   |.dj=>.any
  |.none=>.any
 |.tup B=>.tup (mapA f B)
 |m=>m) n
noncomputable def af_:cU D:=⟨.str ⟨⟨[1]⟩⟩,λn k=>k (n-1)⟩
noncomputable def fA(B:G cL):MH:=⟨@b9 cL (λ_=>H->MT->MT) (λ_ t=>t) (λE _ f n t=>f (cX n) (t.ins n E)) B 0 .nil,B.length⟩
section
noncomputable def j6(m:D):ah:=@D.rec (λ_=>ah) (λ_=>ah) true (λ_=>true) (λ_=>true) (λ_=>true) (λ_ x=>x) (λ_=>true) (λ_=>true) (λ_=>true) (λ_=>true) (λ_ _ x=>x) true (λ_=>false) true (λ_ _ x y=>x&&y) m
noncomputable def mD(B:G D):ah:=@b9 D (λ_=>ah) true (λa _ y=>j6 a&&y) B
theorem Gz(B:G D):j6 (.tup B)=mD B:=by
 refine(?_:@D.rec_1 (λ_=>ah) (λ_=>ah) true (λ_=>true) (λ_=>true) (λ_=>true) (λ_ x=>x) (λ_=>true) (λ_=>true) (λ_=>true) (λ_=>true) (λ_ _ x=>x) true (λ_=>false) true (λ_ _ x y=>x&&y) B=mD B)
 induction B with
 |nil=>rfl
 |cons a B O=>show(j6 a&&_)=(j6 a&&mD B);rw [<-O]
theorem NM(k:FK)(B:G D):j6 (.aD k B)=mD B:=Gz B
section
variable{c:a_}{w w':WB}{F C F2 bf:G aA}{h:aP}
theorem GA(h:m∈B)(r:mD B=true):j6 m=true:=by
 induction h with
 |head=>exact(aN.mp r).1
 |tail _ _ O=>exact O (aN.mp r).2
theorem VR.chg(hw:w.w=w'.w):∀{v:aw},j6 m=true->VR c w F C h m v->VR c w' F C h m v:=
 D.ind (P:=λm=>∀{v:aw},j6 m=true->VR c w F C h m v->VR c w' F C h m v)
  (λ_ x=>x) (λ_ _ _ x=>x) (λ_ _ _ x=>x) (λ_ _ _ x=>x)
  (λB O v r x=>by
   rw [Gz] at r
   refine gr.el x.gj λa V n e f g y=>?_
   exact⟨a,V,n,e,f,g,y.map λm hm v=>O m hm (GA hm r)⟩)
  (λ_ _ _ x=>x) (λ_ _ _ x=>x) (λ_ _ _ x=>x) (λ_ _ _ x=>x)
  (λI B O v r x=>by
   rw [NM] at r
   have go:∀{V:G aw},aW c w F C h B V->aW c w' F C h B V:=λy=>y.map λm hm v=>O m hm (GA hm r)
   cases I with
   |list b=>
    refine dO x λa V n e bB=>eN bB λf g b1 dA=>xA dA λb2 y=>?_
    exact⟨a,V,n,e,f,g,b1,b2,go y⟩
   |dict ks=>
    refine eK x λa V e f ns bB=>cf bB λg b1 y=>?_
    exact⟨a,V,e,f,ns,hw▸g,b1,go y⟩
   |inst aq ks=>
    refine dO x λa d V e bB=>eN bB λf f' g dA=>cf dA λg' b1 y=>?_
    exact⟨a,d,V,e,f,f',g,hw▸g',b1,go y⟩)
  (λ_ _=>trivial) (λ_ _ r _=>bz r) m
theorem aW.chg(hw:w.w=w'.w)(r:mD B=true)(x:aW c w F C h B V):aW c w' F C h B V:=x.map λm hm v=>VR.chg hw (GA hm r)
end
noncomputable def w0(w:dF):WB:=⟨w,λ_ _ _ _ _=>dP,λ_ x=>x,λx=>x.elim⟩
noncomputable def bC(m:D):ah:=noRef m&&j6 m
noncomputable def wb(c:a_)(w:dF)(aL:H->aa D):WB where
 w:=w
 tok i F C h v:=∃m,aL i=some m/\bC m=true/\cJ (handed m)=true/\VR c (w0 w) F C h m v
 mono:=λk ⟨m,e,p,q,x⟩=>⟨m,e,p,q,x.mono k (.inl (aN.mp p).1)⟩
 hand:=λ⟨m,e,p,q,x⟩=>by
  generalize z:handed m=ax at q
  cases ax with
  |none=>exact bz q
  |some m'=>exact(L8 z x).2
section
variable(aQ aJ:H->aa D)(o:MH)(β:H->aa H)(FZ:H->Prop)
mutual
inductive Cv:D->D->Prop
 |same {m:D}:bC m=true->Cv m m
 |ref {i j:H}:β i=some j->Cv (.ref i) (.ref j)
 |any {m:D}:Cv m .any
 |fuel {i:ba} {k:H}:(k:ba)<=i->Cv (.int i) (.fuel k)
 |less {k k':H}:k'<=k->Cv (.fuel k) (.fuel k')
 |eT {m:D} {j:H}:bC m=true->cJ (handed m)=true->aJ j=some m->Cv m (.tok j)
 |fe {m:D} {i:H}:aQ i=some m->Cv (.tok i) m
 |gZ {m:D} {i j:H}:aQ i=some m->aJ j=some m->Cv (.tok i) (.tok j)
 |tup {B l':G D}:cG B l'->Cv (.tup B) (.tup l')
 |aD {k:FK} {B l':G D}:cG B l'->Cv (.aD k B) (.aD k l')
 |lst {i b b':H} {r B:G D}:o.t.get i=some (.list b r)->FZ i->cG r.reverse B->B.length<=b'->b'<=4096->Cv (.ref i) (.aD (.list b') B)
 |inst {i aq d:H} {p:D×D} {R:G (D×D)} {ks:G ar} {B:G D}:o.t.get i=some (.inst aq d)->o.t.get d=some (.dict (p::R))->FZ i->FZ d->(p::R).map (·.1)=ks.map D.str->cG ((p::R).map (·.2)) B->Cv (.ref i) (.aD (.inst aq ks) B)
inductive cG:G D->G D->Prop
 |nil:cG [] []
 |cons {m m':D} {B l':G D}:Cv m m'->cG B l'->cG (m::B) (m'::l')
end
inductive gR:cL->cL->Prop
 |list {b b':H} {r r':G D}:cG aQ aJ o β FZ r r'->r'.length<=b'->b'<=4096->gR (.list b r) (.list b' r')
 |dict {R dD:G (D×D)}:R.map (·.1)=dD.map (·.1)->cG aQ aJ o β FZ (R.map (·.2)) (dD.map (·.2))->gR (.dict R) (.dict dD)
 |inst {aq d d':H}:β d=some d'->gR (.inst aq d) (.inst aq d')
 |dj:gR .dj .dj
end
section
variable{c:a_}{w:dF}{F C F2 bf:G aA}{J h:aP}{o dz:MH}{aQ aJ:H->aa D}{β:H->aa H}{FZ:H->Prop}
theorem VR.plain(hs:∀a E,h.get? a=some E->cM F C a->cM F2 bf a){w w':WB}(hw:w.w=w'.w)(p:bC m=true)(x:VR c w F C h m v):VR c w' F2 bf h m v:=by
 refine xA (aN.mp p) λp1 p2=>?_
 exact(x.mono (λa E e f=>⟨e,hs a E e f⟩) (.inl p1)).chg hw p2
theorem Yr{ks:G ar}(u:Under (VR c (wb c w aQ) F C h) D.str R aR)(hk:R.map (·.1)=ks.map D.str):aR=ks.zip (aR.map (·.2))/\ks.length=(aR.map (·.2)).length/\aW c (wb c w aQ) F C h (R.map (·.2)) (aR.map (·.2)):=by
 induction u generalizing ks with
 |nil=>rw [Cw.mp hk.symm];exact⟨rfl,rfl,.nil⟩
 |cons hp r O=>
  cases ks with
  |nil=>exact xY hk
  |cons k ks=>
   refine xA (qz hk) λe1 e2=>?_
   rw [<-D.str_inj e1]
   refine cf (O e2) λi1 i2 i3=>?_
   exact⟨cq _ i1,cq (· +1) i2,.cons hp i3⟩
theorem OV{ks:G ar}(x:OR c (wb c w aQ) F C h a (.dict (p::R)))(hk:(p::R).map (·.1)=ks.map D.str):∃V,h.DictOf (strKind c w) a (ks.zip V)/\ks.length=V.length/\aW c (wb c w aQ) F C h ((p::R).map (·.2)) V:=by
 obtain⟨⟨aR,d,u,_⟩|⟨aR,d,u⟩,_⟩:=x
 .refine cf (Yr u hk) λk1 k2 k3=>?_
  exact⟨_,k1▸d,k2,k3⟩
 .cases u with
  |cons hp r=>
   cases ks with
   |nil=>exact xY hk
   |cons k ks=>nomatch (qz hk).1
theorem Cv.ok(S:St c (wb c w aQ) J F C o h)(ji:∀i j a,β i=some j->C[i]?=some a->bf[j]?=some a)(hs:∀a E,h.get? a=some E->cM F C a->cM F2 bf a)(kH:∀i a,FZ i->C[i]?=some a->cM F2 bf a){m m2:D}(I:Cv aQ aJ o β FZ m m2):VR c (wb c w aQ) F C h m v->VR c (wb c w aJ) F2 bf h m2 v:=by
 refine Cv.rec (motive_1:=λm m2 _=>∀v,VR c (wb c w aQ) F C h m v->VR c (wb c w aJ) F2 bf h m2 v) (motive_2:=λB l2 _=>∀V,aW c (wb c w aQ) F C h B V->aW c (wb c w aJ) F2 bf h l2 V)
  (λp _ x=>x.plain (w:=wb c w aQ) (w':=wb c w aJ) hs rfl p) (λe v x=>?_) (λv x=>?_) (λe v x=>?_) (λe v x=>?_) (λp q e v x=>?_) (λe v x=>?_) (λe e2 v x=>?_) (λI O v x=>?_) (λ{k} _ _ I O v x=>?_) (λe1 f1 I l1 l2 O v x=>?_) (λe1 e2 f1 f2 hk I O v x=>?_) (λV x=>?_) (λI d Fc Fd V x=>?_) I v
 .refine ay x λa q r=>?_
  exact⟨a,ji _ _ _ e q,r⟩
 .trivial
 .refine bw x λt r=>?_
  exact⟨_,t,r,e⟩
 .refine jv x λi t r B=>?_
  exact⟨i,t,r,wt (Qu.mpr e) B⟩
 .exact⟨_,e,p,q,x.plain (w:=wb c w aQ) (w':=w0 w) hs rfl p⟩
 .refine iZ x λm' e' p q y=>?_
  rw [aM (e.symm.trans e')]
  exact y.plain (w:=w0 w) (w':=wb c w aJ) hs rfl p
 .refine iZ x λm' e' p q y=>?_
  rw [<-aM (e.symm.trans e')] at p q y
  exact⟨_,e2,p,q,y.plain (w:=w0 w) (w':=w0 w) hs rfl p⟩
 .refine dO x λa V n e bB=>cf bB λf g y=>?_
  exact⟨a,V,n,e,hs _ _ g f,g,O _ y⟩
 .cases k with
  |list b=>
   refine dO x λa V n e bB=>eN bB λf g b1 dA=>xA dA λb2 y=>?_
   have y':=O _ y
   exact⟨a,V,n,e,hs _ _ g f,g,by rw [<-y'.length,y.length];exact b1,b2,y'⟩
  |dict ks=>
   refine eK x λa V e f ns bB=>cf bB λg b1 y=>?_
   refine bw (qJ g) λE ho=>?_
   have y':=O _ y
   exact⟨a,V,e,hs _ _ ho f,ns,g,by rw [b1,<-y'.length,y.length],y'⟩
  |inst aq ks=>
   refine dO x λa d V e bB=>eN bB λf f' g dA=>cf dA λg' b1 y=>?_
   refine bw (qJ g') λE ho=>?_
   have y':=O _ y
   exact⟨a,d,V,e,hs _ _ g f,hs _ _ ho f',g,g',by rw [b1,<-y'.length,y.length],y'⟩
 .refine ay x λa q r=>?_
  refine eK (S.ref q e1) λV n g y _ _=>?_
  have z:=y.reverse
  rw [mU] at z
  exact⟨a,V,n,r,kH _ _ f1 q,g,l1,l2,O _ z⟩
 .refine ay x λa q r=>?_
  obtain⟨dx,qd,g⟩:∃dx,C[_]?=some dx/\h.get? a=some (u4 _ dx):=S.ref q e1
  refine fM (OV (S.ref qd e2) hk) λV k1 k2 k3=>?_
  have y:=O _ k3
  exact⟨a,dx,V,r,kH _ _ f1 q,kH _ _ f2 qd,g,k1,by rw [k2,y.length],y⟩
 .rw [x.dW];exact .nil
 .refine dR.el x.cj λv r aE a b=>?_;rw [aE]
  exact .cons (Fc _ a) (Fd _ b)
theorem cG.ind{P:G D->G D->Prop}(h0:P [] [])(h1:∀{m m' B l'},Cv aQ aJ o β FZ m m'->cG aQ aJ o β FZ B l'->P B l'->P (m::B) (m'::l'))(I:cG aQ aJ o β FZ B l2):P B l2:=
 cG.rec (motive_1:=λ_ _ _=>jz) (motive_2:=λB l2 _=>P B l2) (λ_=>trivial) (λ_=>trivial) trivial (λ_=>trivial) (λ_=>trivial) (λ_ _ _=>trivial) (λ_=>trivial) (λ_ _=>trivial) (λ_ _=>trivial) (λ_ _=>trivial) (λ_ _ _ _ _ _=>trivial) (λ_ _ _ _ _ _ _=>trivial) h0 (λI d _ O=>h1 I d O) I
theorem cG.ok(S:St c (wb c w aQ) J F C o h)(ji:∀i j a,β i=some j->C[i]?=some a->bf[j]?=some a)(hs:∀a E,h.get? a=some E->cM F C a->cM F2 bf a)(kH:∀i a,FZ i->C[i]?=some a->cM F2 bf a){B l2:G D}(I:cG aQ aJ o β FZ B l2):∀{V:G aw},aW c (wb c w aQ) F C h B V->aW c (wb c w aJ) F2 bf h l2 V:=by
 refine I.ind (P:=λB l2=>∀{V:G aw},aW c (wb c w aQ) F C h B V->aW c (wb c w aJ) F2 bf h l2 V) (λx=>?_) λI d O V x=>?_
 .rw [x.dW];exact .nil
 .refine dR.el x.cj λv r aE a b=>?_;rw [aE]
  exact .cons (I.ok S ji hs kH a) (O b)
theorem cG.inv(I:cG aQ aJ o β FZ (m::B) (m'::l')):Cv aQ aJ o β FZ m m'/\cG aQ aJ o β FZ B l':=by
 cases I with
 |cons I d=>exact⟨I,d⟩
theorem cG.length{B l2:G D}(I:cG aQ aJ o β FZ B l2):l2.length=B.length:=I.ind (P:=λB l2=>l2.length=B.length) rfl λ_ _ O=>cq cX O
theorem cG.reverse{B l2:G D}(x:cG aQ aJ o β FZ B l2):∀{m m2:G D},cG aQ aJ o β FZ m m2->cG aQ aJ o β FZ (B.reverse++m) (l2.reverse++m2):=by
 refine x.ind (P:=λB l2=>∀{m m2:G D},cG aQ aJ o β FZ m m2->cG aQ aJ o β FZ (B.reverse++m) (l2.reverse++m2)) (λy=>y) λI d O m m2 y=>?_
 rw [rP,rP,l_,l_]
 exact O (.cons I y)
theorem Pz{L:Type}{key:L->D}(hP:∀m m2 v,Cv aQ aJ o β FZ m m2->P m v->Q m2 v){aR:G (L×aw)}(e:R.map (·.1)=dD.map (·.1))(I:cG aQ aJ o β FZ (R.map (·.2)) (dD.map (·.2)))(u:Under P key R aR):Under Q key dD aR:=by
 induction u generalizing dD with
 |nil=>rw [Cw.mp e.symm];exact .nil
 |cons a _ O=>
  cases dD with
  |nil=>exact xY e
  |cons p dD=>
   obtain⟨k',m'⟩:=p
   refine xA (qz e) λe1 e2=>?_
   obtain rfl:_=k':=e1
   refine xA I.inv λI d=>?_
   exact .cons (hP _ _ _ I a) (O e2 d)
theorem gR.ok(S:St c (wb c w aQ) J F C o h)(ji:∀i j a,β i=some j->C[i]?=some a->bf[j]?=some a)(hs:∀a E,h.get? a=some E->cM F C a->cM F2 bf a)(kH:∀i a,FZ i->C[i]?=some a->cM F2 bf a)
  {a:aA} (I:gR aQ aJ o β FZ E o2) (x:OR c (wb c w aQ) F C h a E):OR c (wb c w aJ) F2 bf h a o2:=by
 cases I with
 |list I l1 l2=>
  refine eK x λV n g y _ _=>?_
  exact⟨V,n,g,cG.ok S ji hs kH I y,l1,l2⟩
 |dict e I=>
  refine xA x ?_;clear x;intro x y
  have hl:=cq zh e
  rw [cZ,cZ] at hl
  refine⟨?_,hl▸y⟩
  rcases x with⟨aR,d,u,z⟩|⟨aR,d,u⟩
  .exact .inl ⟨aR,d,Pz (P:=VR c (wb c w aQ) F C h) (Q:=VR c (wb c w aJ) F2 bf h) (λm m2 v I q=>Cv.ok S ji hs kH I q) e I u,z⟩
  .exact .inr ⟨aR,d,Pz (P:=VR c (wb c w aQ) F C h) (Q:=VR c (wb c w aJ) F2 bf h) (λm m2 v I q=>Cv.ok S ji hs kH I q) e I u⟩
 |inst e=>
  refine ay x λdx q g=>?_
  exact⟨dx,ji _ _ _ e q,g⟩
 |dj=>exact x
theorem St.mJ(S:St c (wb c w aQ) J F C o h)(len:dz.n=bf.length)(nd:bf.Nodup)(cI:∀a∈F2,(∃E,h.get? a=some E)/\a∉bf/\J.get? a=none)(hs:∀a E,h.get? a=some E->cM F C a->cM F2 bf a)(kH:∀i a,FZ i->C[i]?=some a->cM F2 bf a)
  (ji:∀i j a,β i=some j->C[i]?=some a->bf[j]?=some a) (pl:∀j a,bf[j]?=some a->∃i E o2,C[i]?=some a/\o.t.get i=some E/\dz.t.get j=some o2/\gR aQ aJ o β FZ E o2):St c (wb c w aJ) J F2 bf dz h:=by
 refine⟨λb E e=>⟨(S.keep b E e).1,λq=>?_⟩,len,nd,cI,λj a e=>?_⟩
 .obtain⟨j,hj,e2⟩:=iE q
  refine dO (pl j b (by rw [cV hj,e2])) λi _ _ e3 _=>?_
  exact(S.keep b E e).2 (dy e3)
 .refine dO (pl j a e) λi E o2 e3 bB=>cf bB λe4 e5 I=>?_
  exact⟨o2,e5,I.ok S ji hs kH (S.ref e3 e4)⟩
end
end
section
variable{ag:Type}{Z:cU ag}{ae:ag->Prop}{c:a_}{w:WB}{Y:bG}{own F F' C ao:G aA}{s:aT}{J h M:aP}{o br:MH}{K:b8}{W:bQ}{mg mb:ar->aa aw}{n:H}{cx:Cx}{fr cy:Fm}{X:cK}{O:Ops ag}
theorem whl_turn(bl:lZ ae c w J n O.ex)(fF:mW ae c w J n O.fh)(aq:Ctx c w J n Y F C s o cx fr X){AZ:MH->ag}
  (hh:ae (O.fh cx t fr o λI o=>@bN (λ_=>ag) (AZ o) (iy O cx b fr o sW) I))
  (WN:∀ao M tk br,bh (eI cx X) C s.heap ao M->ae (AZ br)->St c w J F ao br M->cH c w F ao M cx fr X->R' (.ok .next) {s with heap:=M,toks:=tk})
  (EW:∀ao M tk br cy,bh (eI cx X) C s.heap ao M->ae (sW .next cy br)->St c w J F ao br M->cH c w F ao M cx cy X->lB (bK c w.w) Y (.whileLoop t b [] X) R' {s with heap:=M,toks:=tk})
  (EZ:∀ao M tk br cy m v,bh (eI cx X) C s.heap ao M->ae (sW (.ret m) cy br)->St c w J F ao br M->cH c w F ao M cx cy X->VR c w F ao M m v->R' (.ok (.ret v)) {s with heap:=M,toks:=tk}):
  lB (bK c w.w) Y (.whileLoop t b [] X) R' s:=by
 refine zX ?_
 show bo _ _ ((do
  if <-isTrue t X (eval t X) then
   match <-iH b X with
   |.next|.cont=>again (.whileLoop t b [] X)
   |.brk=>pure (.done .next)
   |.ret v=>pure (.done (.ret v))
  else return .done (<-iH [] X):iT PySem.Fin).onRaise (λx=>do Bd x X;Ic x)) _ _ s
 refine IF ?_
 refine aO (fF Y F C s o cx t fr X _ aq hh _ _ λI bq h1 aZ aS p1=>?_)
 obtain⟨bM,bR,S1⟩:=p1
 have C1:=aq.next aS S1 aZ
 cases I with
 |false=>
  rw [bk fY]
  refine aO (ID (bX ?_))
  exact WN bq h1 aZ bM aS.any bR S1 C1.fr
 |true=>
  rw [bT rfl]
  refine aO (ku bl b bq {s with heap:=h1,toks:=aZ} bM fr _ C1 bR _ _ λf bf h2 bS bp p2=>?_)
  obtain⟨g,kE,dz,de,S2,G2,fl⟩:=p2
  cases g with
  |next=>
   cases fl
   exact bX ⟨rfl,EW bf h2 bS dz kE (aS.any.trans bp) de S2 G2⟩
  |ret mv=>
   refine ay fl ?_;clear fl;intro v aI xv;subst aI
   exact bX (EZ bf h2 bS dz kE mv v (aS.any.trans bp) de S2 G2 xv)
theorem dm.weak(hF:∀b∈ownOf X,b∈F2)(hv:∀(i:H) (m':D),qm[i]?=some (some m')->∃m,vars[i]?=some (some m)/\∀v,VR c w F C h m v->VR c w' F2 bf h m' v)
  (x:dm c w F C h sc vars X):dm c w' F2 bf h sc qm X:=x.gen (λ_ _ _ e=>e) hF hv
theorem dm.bare(hF:∀b∈ownOf X,b∈F2)(x:dm c w F C h sc vars X):dm c w' F2 bf h sc [] X:=x.weak hF λi m' e=>by cases i<;>exact aB e
theorem uJ(X:cK)(B l':G en):iH (B++l') X=(iH B X>>=λf=>match f with|Flow.next=>iH l' X|f=>pure f):=by
 induction B with
 |nil=>
  refine(?_:iH l' X=(pure Flow.next>>=_))
  rw [vL]
 |cons a B O=>
  rw [Jf,execs_cons,execs_cons,bind_assoc]
  refine cq _ (funext λf=>?_)
  cases f with
  |next=>exact O
  |_=>rw [vL]
theorem agi(x:bc c w Y own C s (iH B X) P)(hr:∀f ao M,f≠.next->P f ao M->P' f ao M)
  (y:∀ao M tk,bh own C s.heap ao M->P .next ao M->bc c w Y own ao {s with heap:=M,toks:=tk} (iH l' X) P'):bc c w Y own C s (iH (B++l') X) P':=by
 intro Q au q
 rw [uJ]
 refine aO (x _ _ λf bq h1 aZ aS p1=>?_)
 cases f with
 |next=>exact y bq h1 aZ aS p1 _ _ λf bf h2 bS bp p2=>q f bf h2 bS (aS.trans bp) p2
 |_=>exact bX (q _ bq h1 aZ aS (hr _ _ _ (λe=>nomatch e) p1))
end
noncomputable def bE(m:D):ah:=@D.rec (λ_=>ah) (λ_=>ah) true (λ_=>true) (λ_=>true) (λ_=>true) (λ_ x=>x) (λ_=>false) (λ_=>true) (λ_=>true) (λ_=>true) (λ_ _ x=>x) true (λ_=>false) true (λ_ _ x y=>x&&y) m
noncomputable def allB{α:Type}(f:α->ah)(B:G α):ah:=@b9 α (λ_=>ah) true (λa _ O=>f a&&O) B
noncomputable def qX(p:D×D):ah:=match p.1 with
 |.str _=>true
 |_=>false
noncomputable def iA{α:Type}(B:G α):H:=@b9 α (λ_=>H) 0 (λ_ _ O=>cX O) B
noncomputable def eQ{α β:Type}(E:aa α)(f:α->aa β):aa β:=@CQ α (λ_=>aa β) .none f E
noncomputable def bO{α:Type}(I:ah)(x:α):aa α:=@bN (λ_=>aa α) .none (some x) I
noncomputable def oG{α:Type}(d:α)(E:aa α):α:=@CQ α (λ_=>α) d (λa=>a) E
noncomputable def mG{α:Type}(f:α->ah)(E:aa α):ah:=@CQ α (λ_=>ah) false f E
noncomputable def oI(E:cL):aa (H×H):=match E with
 |.inst aq d=>some (aq,d)
 |_=>.none
noncomputable def oD(E:cL):aa (G (D×D)):=match E with
 |.dict R=>some R
 |_=>.none
noncomputable def oL(E:cL):aa (H×G D):=match E with
 |.list b r=>some (b,r)
 |_=>.none
noncomputable def te(o:MH)(i:H):aa (H×H):=eQ (o.t.get i) oI
noncomputable def vG(o:MH)(i:H):aa (G (D×D)):=eQ (o.t.get i) oD
noncomputable def jj(o:MH)(i:H):aa (H×G D):=eQ (o.t.get i) oL
noncomputable def X4{α:Type}(B:G α):ah:=match B with
 |[]=>false
 |_::_=>true
noncomputable def BL(ok:H->ah)(o:MH)(i:H):aa D:=eQ (te o i) λp=>eQ (vG o p.2) λR=>bO (ok i&&ok p.2&&X4 R&&allB qX R&&allB (λq=>bE q.2) R) (.aD (.inst p.1 (hJ R)) (mapA (λq=>q.2) R))
noncomputable def r_(o:MH)(v:D):aa D:=match v with
 |.tok i=>some (.tok i)
 |.aD k B=>bO (bE (.aD k B)) (.aD k B)
 |.ref i=>BL (eB 7) o i
 |_=>.none
noncomputable def sQ(o:MH)(i aq d:H):ah:=mG (λp=>bA p.1 aq&&bA p.2 d) (te o i)
noncomputable def xV(k:ar)(m:D):ah:=match m with
 |.str x=>seq x k
 |_=>false
noncomputable def N8(k1 k2:ar)(R:G (D×D)):aa (D×D):=match R with
 |[p,q]=>bO (xV k1 p.1&&xV k2 q.1) (p.2,q.2)
 |_=>.none
noncomputable def d2(o:MH)(i:H)(k1 k2:ar):aa (D×D):=eQ (vG o i) (N8 k1 k2)
noncomputable def gf(o:MH)(i:H)(k1 k2:ar):D×D:=oG (.none,.none) (d2 o i k1 k2)
noncomputable def lG(o:MH)(i:H):H×G D:=oG (0,[]) (jj o i)
noncomputable def nD:ar:=⟨⟨[107,105,110,100,115]⟩⟩
noncomputable def nB:ar:=⟨⟨[102,117,101,108]⟩⟩
noncomputable def eH:ar:=⟨⟨[114,111,119,115]⟩⟩
noncomputable def eG:ar:=⟨⟨[109,97,110,121]⟩⟩
noncomputable def eE:ar:=⟨⟨[84,46,49,33,49]⟩⟩
noncomputable def eD:ar:=⟨⟨[78,46,50,33,50]⟩⟩
structure Lk where
 fl:ah
 fuel:D
 left:G D
 a:D
 b:D
 wl:H
noncomputable def pU(v:D):ah:=match v with
 |.tok i=>bA i 0
 |_=>false
noncomputable def kM(j:H)(v:D):ah:=match v with
 |.ref i=>bA i j
 |_=>false
noncomputable def oH(j:ba)(v:D):ah:=match v with
 |.int i=>eqZ i j
 |_=>false
noncomputable def lH(fl:ah)(o:MH):aa Lk:=bO (sQ o 0 338 1&&sQ o 3 200 4&&cJ (d2 o 1 nD nB)&&pU (gf o 1 nD nB).1&&cJ (d2 o 4 eH eG)&&kM 5 (gf o 4 eH eG).1&&oH 2 (gf o 4 eH eG).2&&
  cJ (d2 o 5 eE eD)&&cJ (r_ o (gf o 5 eE eD).1)&&cJ (r_ o (gf o 5 eE eD).2)&&cJ (jj o 2)&&cJ (jj o 6))
 ⟨fl,(gf o 1 nD nB).2,(lG o 2).2,oG .none (r_ o (gf o 5 eE eD).1),oG .none (r_ o (gf o 5 eE eD).2),iA (lG o 6).2⟩
noncomputable def nR(f:H)(left wr:G D)(a b:D):G cL:=[.inst 338 1,.dict [(.str nD,.tok 0),(.str nB,.fuel f)],.list 400 left,.inst 200 4,.dict [(.str eH,.ref 5),(.str eG,.int 2)],.dict [(.str eE,a),(.str eD,b)],.list 400 wr]
noncomputable def stH(f:H)(left wr:G D)(a b:D):MH:=fA (nR f left wr a b)
noncomputable def gY:Fm:=⟨[some (.ref 0),some (.ref 2),some (.ref 3),some (.ref 6),.none,.none],[]⟩
noncomputable def jR:cU (aa Lk):=⟨.none,λ_ _=>.none⟩
noncomputable def pS(j:H)(v:aa D):ah:=match v with
 |some v=>kM j v
 |.none=>false
noncomputable def GI(B:G (aa D)):ah:=match B with
 |a::b::I::d::_=>pS 0 a&&pS 2 b&&pS 3 I&&pS 6 d
 |_=>false
noncomputable def sW(f:eh)(fr:Fm)(o:MH):aa Lk:=match f with
 |.next=>match GI fr.vars with
  |true=>lH true o
  |false=>.none
 |.ret v=>match v with
  |.none=>lH false o
  |_=>.none
noncomputable def turn(W:bQ)(n:H)(sc:G (ar×dc))(t:aX)(bd:G en)(o:MH):aa Lk:=(run jR W n).fh ⟨sc,.none⟩ t gY o λI o=>@bN (λ_=>aa Lk) .none (iy (run jR W n) ⟨sc,.none⟩ bd gY o sW) I
noncomputable def Il(W:bQ)(n:H)(sc:G (ar×dc))(t:aX)(bd:G en)(o:MH):aa Lk:=(run jR W n).fh ⟨sc,.none⟩ t gY o λI o=>@bN (λ_=>aa Lk) (lH true o) (iy (run jR W n) ⟨sc,.none⟩ bd gY o λ_ _ _=>.none) I
noncomputable def MW(f:eh)(fr:Fm)(o:MH):aa Lk:=match f with
 |.next=>.none
 |.ret v=>match v with
  |.none=>lH false o
  |.ref i=>match bA i 3 with
   |true=>lH true o
   |false=>.none
  |_=>.none
noncomputable def v_(W:bQ)(n:H)(sc:G (ar×dc))(rs:G en)(o:MH):aa Lk:=iy (run jR W n) ⟨sc,.none⟩ rs gY o MW
section
variable{o:MH}{aL:H->aa D}
theorem bx(h:(a&&b)=true):a=true:=(aN.mp h).1
theorem bL(h:(a&&b)=true):b=true:=(aN.mp h).2
theorem fp{α β:Type}{E:aa α}{f:α->aa β}{b:β}(e:eQ E f=some b):∃a,E=some a/\f a=some b:=by
 cases E with
 |none=>exact aB e
 |some a=>exact⟨a,rfl,e⟩
theorem jA{α:Type}{x y:α}(e:bO I x=some y):I=true/\x=y:=by
 cases I with
 |false=>exact aB e
 |true=>exact⟨rfl,aM e⟩
theorem pT{α:Type}{d:α}{E:aa α}(e:cJ E=true):E=some (oG d E):=by
 cases E with
 |none=>exact bz e
 |some a=>rfl
theorem nH{α:Type}{f:α->ah}{E:aa α}(e:mG f E=true):∃a,E=some a/\f a=true:=by
 cases E with
 |none=>exact bz e
 |some a=>exact⟨a,rfl,e⟩
theorem GF{i:H}{p:H×H}(e:te o i=some p):o.t.get i=some (.inst p.1 p.2):=by
 refine ay (fp e) λE h e=>?_
 cases E with
 |inst aq d=>rw [h,<-aM e]
 |_=>exact aB e
theorem yj{i:H}{p:G (D×D)}(e:vG o i=some p):o.t.get i=some (.dict p):=by
 refine ay (fp e) λE h e=>?_
 cases E with
 |dict R=>rw [h,<-aM e]
 |_=>exact aB e
theorem sY{i:H}{x:H×G D}(e:jj o i=some x):o.t.get i=some (.list x.1 x.2):=by
 refine ay (fp e) λE h e=>?_
 cases E with
 |list b r=>rw [h,<-aM e]
 |_=>exact aB e
theorem u6{i aq d:H}(e:sQ o i aq d=true):o.t.get i=some (.inst aq d):=by
 refine ay (nH e) λp h e=>?_
 rw [GF h,dU (bx e),dU (bL e)]
theorem FE{m:D}(e:xV k m=true):m=.str k:=by
 cases m with
 |str x=>rw [lV.mp e]
 |_=>exact bz e
theorem abn{R:G (D×D)}{x:D×D}(e:N8 k1 k2 R=some x):R=[(.str k1,x.1),(.str k2,x.2)]:=by
 cases R with
 |nil=>exact aB e
 |cons p R=>cases R with
  |nil=>exact aB e
  |cons q R=>cases R with
   |cons=>exact aB e
   |nil=>
    refine xA (jA e) λI aI=>?_;rw [<-aI]
    rw [<-FE (bx I),<-FE (bL I)]
theorem DT{i:H}{k1 k2:ar}{x:D×D}(e:d2 o i k1 k2=some x):o.t.get i=some (.dict [(.str k1,x.1),(.str k2,x.2)]):=by
 refine ay (fp e) λR h e=>?_
 rw [yj h,abn e]
theorem ou{i:H}{k1 k2:ar}(e:cJ (d2 o i k1 k2)=true)(e1:(gf o i k1 k2).1=v1)(e2:(gf o i k1 k2).2=v2):o.t.get i=some (.dict [(.str k1,v1),(.str k2,v2)]):=by
 rw [<-e1,<-e2];exact DT (pT e)
theorem sX{i:H}(e:cJ (jj o i)=true):∃b,o.t.get i=some (.list b (lG o i).2):=⟨_,sY (pT e)⟩
theorem xT(e:pU v=true):v=.tok 0:=by
 cases v with
 |tok i=>rw [dU (e:bA i 0=true)]
 |_=>exact bz e
theorem sR(e:kM j v=true):v=.ref j:=by
 cases v with
 |ref i=>rw [dU (e:bA i j=true)]
 |_=>exact bz e
theorem sS(e:oH j v=true):v=.int j:=by
 cases v with
 |int i=>rw [(jC _ _).mp (e:eqZ i j=true)]
 |_=>exact bz e
theorem NJ(B:G D):@D.rec_1 (λ_=>ah) (λ_=>ah) true (λ_=>true) (λ_=>true) (λ_=>true) (λ_ x=>x) (λ_=>false) (λ_=>true) (λ_=>true) (λ_=>true) (λ_ _ x=>x) true (λ_=>false) true (λ_ _ x y=>x&&y) B=allB bE B:=by
 induction B with
 |nil=>rfl
 |cons a B O=>show(bE a&&_)=(bE a&&allB bE B);rw [<-O]
theorem nG(B:G D):bE (.tup B)=allB bE B:=NJ B
theorem s9(k:FK)(B:G D):bE (.aD k B)=allB bE B:=NJ B
theorem NI(h:∀m∈B,bE m=bC m):allB bE B=(q9 B&&mD B):=by
 induction B with
 |nil=>rfl
 |cons a B O=>
  refine(?_:(bE a&&allB bE B)=((noRef a&&q9 B)&&(j6 a&&mD B)))
  rw [h a (.head _),O λm hm=>h m (.tail _ hm)]
  unfold bC
  rw [IZ,IZ,Bool.and_left_comm (j6 a)]
theorem fB(m:D):bE m=bC m:=
 D.ind (P:=λm=>bE m=bC m) rfl (λ_=>rfl) (λ_=>rfl) (λ_=>rfl)
  (λB O=>by
   unfold bC
   rw [Gx,Gz,nG]
   exact NI O)
  (λ_=>rfl) (λ_=>rfl) (λ_=>rfl) (λ_=>rfl)
  (λk B O=>by
   unfold bC
   rw [NK,NM,s9]
   exact NI O) rfl (λ_=>rfl) m
theorem FG(e:allB qX R=true):R.map (·.1)=(hJ R).map D.str:=by
 induction R with
 |nil=>rfl
 |cons p R O=>
  obtain⟨k,v⟩:=p
  refine xA (aN.mp (e:(qX (k,v)&&allB qX R)=true)) λe1 e2=>?_
  have O:=O e2
  clear e e2
  cases k with
  |str x=>exact cq (List.cons (D.str x)) O
  |_=>exact bz e1
theorem pY{α β:Type}(f:α->β)(B:G α):mapA f B=B.map f:=by
 induction B with
 |nil=>rfl
 |cons a B O=>show f a::mapA f B=_;rw [O];rfl
theorem nE{α:Type}(B:G α):iA B=B.length:=by
 induction B with
 |nil=>rfl
 |cons a B O=>show cX (iA B)=_;rw [O];rfl
theorem iw:∀{B:G D},(∀m∈B,bC m=true)->cG aQ aJ o β FZ B B
 |[],_=>.nil
 |a::B,h=>.cons (.same (h a (.head _))) (iw λm hm=>h m (.tail _ hm))
theorem xd:∀{B:G D},cG aQ aJ o β FZ B (dh B.length .any)
 |[]=>.nil
 |a::B=>.cons .any xd
theorem Sk{B:G (D×D)}(I:allB (λq=>bE q.2) B=true):∀m∈B.map (·.2),bC m=true:=by
 induction B with
 |nil=>exact λ_ h=>nomatch h
 |cons a B O=>exact λm h=>(bY.mp h).elim (λz=>z▸fB _▸bx I) (O (bL I) m)
theorem OD{ok:H->ah}{i:H}{x:D}(e:BL ok o i=some x):∃aq d q R,o.t.get i=some (.inst aq d)/\o.t.get d=some (.dict (q::R))/\ok i=true/\ok d=true/\(q::R).map (·.1)=(hJ (q::R)).map D.str/\(∀m∈(q::R).map (·.2),bC m=true)/\x=.aD (.inst aq (hJ (q::R))) ((q::R).map (·.2)):=by
 refine ay (fp e) λp h1 e=>?_
 refine ay (fp e) λR h2 e=>?_
 refine xA (jA e) λI aI=>?_;rw [<-aI]
 cases R with
 |nil=>exact bz (bL (bx (bx I)))
 |cons q R=>exact⟨_,_,q,R,GF h1,yj h2,bx (bx (bx (bx I))),bL (bx (bx (bx I))),FG (bL (bx I)),Sk (bL I),by rw [pY]⟩
theorem zZ{v v' v2:D}{FZ:H->Prop}{β:H->aa H}(hF:∀i aq d,v=.ref i->o.t.get i=some (.inst aq d)->7<=i->7<=d->FZ i/\FZ d)(ht:∀i,v'=.tok i->Cv aL aJ o β FZ (.tok i) v2)(hn:(∀i,v'≠.tok i)->v2=v')(e:r_ o v=some v'):Cv aL aJ o β FZ v v2:=by
 cases v with
 |tok i=>have e:=aM e;subst e;exact ht i rfl
 |aD k B=>
  refine xA (jA e) λI aI=>?_;subst aI
  rw [hn λi q=>nomatch q];exact .same (fB _▸I)
 |ref i=>
  refine gK (OD e) λaq d bB=>eK bB λq R h1 h2 c1 dA=>eN dA λc2 c3 c4 Hp=>?_;subst Hp
  have z:=hF _ _ _ rfl h1 (dw c1) (dw c2)
  rw [hn λi q=>nomatch q]
  exact .inst h1 h2 z.1 z.2 c3 (iw c4)
 |_=>exact aB e
structure CX(o:MH)(L:Lk):Prop where
 p0:o.t.get 0=some (.inst 338 1)
 p1:o.t.get 1=some (.dict [(.str nD,.tok 0),(.str nB,L.fuel)])
 p2:∃b,o.t.get 2=some (.list b L.left)
 p3:o.t.get 3=some (.inst 200 4)
 p4:o.t.get 4=some (.dict [(.str eH,.ref 5),(.str eG,.int 2)])
 p5:∃x y,o.t.get 5=some (.dict [(.str eE,x),(.str eD,y)])/\r_ o x=some L.a/\r_ o y=some L.b
 p6:∃b r,o.t.get 6=some (.list b r)/\r.length=L.wl
theorem s6{fl:ah}{L:Lk}(e:lH fl o=some L):L.fl=fl/\CX o L:=by
 refine xA (jA e) λnk aI=>?_;subst aI
 have nj:=bx nk
 have nh:=bx nj
 have c9:=bx nh
 have c8:=bx c9
 have c7:=bx c8
 have c6:=bx c7
 have c5:=bx c6
 have c4:=bx c5
 have c3:=bx c4
 have c2:=bx c3
 exact⟨rfl,u6 (bx c2),ou (bL c3) (xT (bL c4)) rfl,sX (bL nj),u6 (bL c2),ou (bL c5) (sR (bL c6)) (sS (bL c7)),⟨_,_,ou (bL c8) rfl rfl,pT (bL c9),pT (bL nh)⟩,let⟨b,h⟩:=sX (bL nk);⟨b,_,h,(nE _).symm⟩⟩
end
section
variable{c:a_}{w:dF}{Y:bG}{F C ao:G aA}{s:aT}{J h M:aP}{o br:MH}{W:bQ}{n:H}{X:cK}{aL aQ aJ:H->aa D}
 {sc:G (ar×dc)} {t:aX} {bd:G en} {f:H} {left wr:G D} {a b:D}
theorem BQ(h:j<7):(stH f left wr a b).t.get j=(nR f left wr a b)[j]?:=rZ (n:=7) (P:=λj=>(stH f left wr a b).t.get j=(nR f left wr a b)[j]?) ⟨rfl,rfl,rfl,rfl,rfl,rfl,rfl,trivial⟩ j h
theorem ja(hp:C<+:ao)(hi:i<C.length):ao[i]?=C[i]?:=by
 refine bw hp ?_;clear hp;intro t aI;subst aI
 rw [iD hi]
theorem Pe(h:∃m,aL i=some m)(e:b=.tok i):Cv aL aL o β FZ (.tok i) b:=by subst e;exact .gZ h.choose_spec h.choose_spec
theorem BD(S:St c (wb c w aL) J F ao br h)(hp:C<+:ao)(dM:C.length=7)(x:CX br L)(hf:L.fuel=.fuel f)(xO:∃m,aL 0=some m)(AH:∀i,L.a=.tok i->∃m,aL i=some m)(AI:∀i,L.b=.tok i->∃m,aL i=some m)
  (hL:∀(o:MH) (β:H->aa H) (FZ:H->Prop),cG aL aL o β FZ L.left L.left) (ll:L.left.length<=400) (lw:L.wl<=400):St c (wb c w aL) J F C (stH f L.left (dh L.wl .any) L.a L.b) h:=by
 obtain⟨x0,x1,⟨b2,x2⟩,x3,x4,⟨x5,y5,x6,x7,x8⟩,⟨b6,r6,x9,afX⟩⟩:=x
 have nd:ao.Nodup:=S.apart
 have sub:∀a∈C,a∈ao:=λa ha=>hp.subset ha
 refine S.mJ (β:=λi=>if i<7 then some i else none) (FZ:=λi=>7<=i) (by rw [dM];rfl) (Co hp.sublist nd) (λa ha=>?_) (λa E _ sf=>⟨sf.1,λq=>sf.2 (sub a q)⟩) (λi a hi e=>⟨λq=>?_,λq=>?_⟩) (λi j a e q=>?_) (λj a e=>?_)
 .refine cf (S.cI a ha) λq1 q2 q3=>?_
  exact⟨q1,λz=>q2 (sub a z),q3⟩
 .exact(S.cI a q).2.1 (dy e)
 .obtain⟨j,hj,e2⟩:=iE q
  have e3:ao[j]?=some a:=by rw [ja hp hj,cV hj,e2]
  refine bw (eM.mp e) λl1 l2=>?_
  refine bw (eM.mp e3) λl3 l4=>?_
  have:=(rK (h₀:=l1) (h₁:=l3) nd).mp (l2.trans l4.symm)
  exact bP (dM▸hj) (g7.mpr (this▸hi:7<=j))
 .by_cases hi:i<7
  .rw [bT hi] at e
   rw [<-aM e,<-ja hp (dM.symm▸hi)]
   exact q
  .rw [bk hi] at e;exact aB e
 .have hj:j<7:=dM▸(eM.mp e).1
  rw [<-ja hp (dM.symm▸hj)] at e
  rw [BQ hj]
  revert e
  refine rZ (n:=7) (P:=λj=>ao[j]?=some a->∃i E o2,ao[i]?=some a/\br.t.get i=some E/\(nR f L.left (dh L.wl .any) L.a L.b)[j]?=some o2/\gR aL aL br (λi=>if i<7 then some i else none) (λi=>7<=i) E o2) ?_ j hj
  exact⟨λe'=>⟨6,_,_,e',x9,rfl,.list (by rw [<-afX];exact xd) (by rw [dZ];exact lw) (by decide)⟩,λe'=>⟨5,_,_,e',x6,rfl,.dict rfl (.cons (zZ (v2:=L.a) (λ_ _ _ _ _ h1 h2=>⟨h1,h2⟩) (λi e=>Pe (AH i e) e) (λ_=>rfl) x7) (.cons (zZ (v2:=L.b) (λ_ _ _ _ _ h1 h2=>⟨h1,h2⟩) (λi e=>Pe (AI i e) e) (λ_=>rfl) x8) .nil))⟩,λe'=>⟨4,_,_,e',x4,rfl,.dict rfl (.cons (.ref rfl) (.cons (.same rfl) .nil))⟩,λe'=>⟨3,_,_,e',x3,rfl,.inst rfl⟩,λe'=>⟨2,_,_,e',x2,rfl,.list (hL _ _ _) ll (by decide)⟩,λe'=>⟨1,_,_,e',x1,rfl,.dict rfl (.cons (.gZ xO.choose_spec xO.choose_spec) (.cons (by rw [hf];exact .same rfl) .nil))⟩,λe'=>⟨0,_,_,e',x0,rfl,.inst rfl⟩,trivial⟩
theorem aa3(e:GI B=true):B[0]?=some (some (.ref 0))/\B[1]?=some (some (.ref 2))/\B[2]?=some (some (.ref 3))/\B[3]?=some (some (.ref 6)):=by
 have key:∀{j:H} {v:aa D},pS j v=true->v=some (.ref j):=by
  intro j v e
  cases v with
  |none=>exact bz e
  |some v=>
   cases v with
   |ref i=>rw [dU (e:bA i j=true)]
   |_=>exact bz e
 match B,e with
 |[],e=>exact bz e
 |[_],e=>exact bz e
 |[_,_],e=>exact bz e
 |[_,_,_],e=>exact bz e
 |p::q::r::u::B,e=>
  refine xA (aN.mp (e:(pS 0 p&&pS 2 q&&pS 3 r&&pS 6 u)=true)) λe e4=>?_
  refine xA (aN.mp e) λe e3=>?_
  refine xA (aN.mp e) λe1 e2=>?_
  rw [key e1,key e2,key e3,key e4]
  exact⟨rfl,rfl,rfl,rfl⟩
theorem BI(gq:Sound (λr:aa Lk=>r=some bu) c (wb c w aL) J n (run jR W n))(aq:Ctx c (wb c w aL) J n Y F C s o ⟨sc,.none⟩ gY X)(dM:C.length=7)(cS:turn W n sc t bd o=some bu)(hf:bu.fuel=.fuel f)
  (xO:∃m,aL 0=some m) (AH:∀i,bu.a=.tok i->∃m,aL i=some m) (AI:∀i,bu.b=.tok i->∃m,aL i=some m) (hL:∀(o:MH) (β:H->aa H) (FZ:H->Prop),cG aL aL o β FZ bu.left bu.left) (ll:bu.left.length<=400) (lw:bu.wl<=400)
  (EW:bu.fl=true->∀M tk,bh (ownOf X) C s.heap C M->Ctx c (wb c w aL) J n Y F C {s with heap:=M,toks:=tk} (stH f bu.left (dh bu.wl .any) bu.a bu.b) ⟨sc,.none⟩ gY X->lB (bK c w) Y (.whileLoop t bd [] X) R' {s with heap:=M,toks:=tk})
  (EZ:bu.fl=false->∀M tk,bh (ownOf X) C s.heap C M->dm c (wb c w aL) F C M sc [] X->St c (wb c w aL) J F C (stH f bu.left (dh bu.wl .any) bu.a bu.b) M->R' (.ok (.ret .none)) {s with heap:=M,toks:=tk}):
  lB (bK c w) Y (.whileLoop t bd [] X) R' s:=by
 have BK:∀{ao M},bh (eI ⟨sc,.none⟩ X) C s.heap ao M->bh (ownOf X) C s.heap C M:=λst=>⟨mT _,st.keep,λb E e n=>⟨(st.out b E e n).1,n⟩⟩
 refine whl_turn (ae:=λr:aa Lk=>r=some bu) (w:=wb c w aL) (AZ:=λ_=>.none) (sW:=sW) gq.ex gq.fh aq cS (λao M tk br st hh=>nomatch hh) (λao M tk br cy st hh S' G'=>?_) (λao M tk br cy m v st hh S' G' x=>?_)
 .have hh:(match GI cy.vars with|true=>lH true br|false=>.none)=some bu:=hh
  refine xA (bI hh) λI hh=>?_
  refine xA (s6 hh) λe1 e2=>?_
  refine eN (aa3 I) λv0 v1 v2 v3=>?_
  refine EW e1 M tk (BK st) ⟨aq.room,BD S' st.pre dM e2 hf xO AH AI hL ll lw,?_⟩
  have G':dm c (wb c w aL) F ao M sc cy.vars X:=G'
  have C3:dm c (wb c w aL) F C s.heap sc gY.vars X:=aq.fr
  refine G'.weak C3.own λi m' e=>?_
  have ref:∀{j:H},j<7->∀v,VR c (wb c w aL) F ao M (.ref j) v->VR c (wb c w aL) F C M (.ref j) v:=by
   intro j hj v x
   refine ay x λad e r=>?_
   exact⟨ad,by rw [<-ja st.pre (by lia)];exact e,r⟩
  match i,e with
  |0,e=>cases e;exact⟨_,v0,ref (by decide)⟩
  |1,e=>cases e;exact⟨_,v1,ref (by decide)⟩
  |2,e=>cases e;exact⟨_,v2,ref (by decide)⟩
  |3,e=>cases e;exact⟨_,v3,ref (by decide)⟩
  |4,e=>cases e
  |5,e=>cases e
  |i+6,e=>exact aB e
 .cases m with
  |none=>
   subst x
   have hh:lH false br=some bu:=hh
   refine xA (s6 hh) λe1 e2=>?_
   have G':dm c (wb c w aL) F ao M sc cy.vars X:=G'
   exact EZ e1 M tk (BK st) (G'.bare G'.own) (BD S' st.pre dM e2 hf xO AH AI hL ll lw)
  |_=>exact aB hh
end
noncomputable def mC(x:H)(B:G H):ah:=@b9 H (λ_=>ah) false (λa _ O=>@bN (λ_=>ah) O true (bA a x)) B
noncomputable def yf(B:G H):ah:=@b9 H (λ_=>ah) true (λa r O=>!(mC a r)&&O) B
noncomputable def gO(j:H)(v:D):ah:=match v with
 |.tok i=>bA i j
 |_=>false
noncomputable def AU(m:D):ah:=match m with
 |.none=>true
 |_=>false
noncomputable def Fl(b:ah)(m:D):ah:=match m with
 |.bool I=>!(qt b I)
 |_=>false
noncomputable def Fp(i:H)(m:D):ah:=match m with
 |.fn j=>bA j i
 |_=>false
noncomputable def yp(f:G D->ah)(m:D):ah:=match m with
 |.tup B=>f B
 |_=>false
noncomputable def Hs(m:G D):ah:=match m with
 |[]=>true
 |_=>false
noncomputable def By(f:D->ah)(g:G D->ah)(m:G D):ah:=match m with
 |[]=>false
 |b::r=>f b&&g r
noncomputable def eW(a:D):D->ah:=@D.rec (λ_=>D->ah) (λ_=>G D->ah) AU Fl oH xV (λ_ f=>yp f) kM Fp (λ_ _=>false) (λ_ _=>false) (λ_ _ _ _=>false) (λ_=>false) gO Hs (λ_ _ f g=>By f g) a
noncomputable def cT(B:G D):G D->ah:=@b9 D (λ_=>G D->ah) Hs (λa _ g=>By (eW a) g) B
noncomputable def acq(args:G D)(o:MH)(s B e u sd dd r:H):aa (G H):=bO (cT args [.ref s,.ref B,.ref e,.ref u]&&sQ o s 338 sd&&sQ o e 200 dd&&cJ (d2 o sd nD nB)&&pU (gf o sd nD nB).1&&oH 4000 (gf o sd nD nB).2&&cJ (d2 o dd eH eG)&&kM r (gf o dd eH eG).1&&oH 2 (gf o dd eH eG).2&&
  cJ (d2 o r eE eD)&&gO 1 (gf o r eE eD).1&&gO 2 (gf o r eE eD).2&&cJ (jj o B)&&cT (lG o B).2 [.tup [.str ⟨⟨[115,117,98]⟩⟩,.tok 10,.tok 11]]&&cJ (jj o u)&&cT (lG o u).2 []&&yf [s,sd,B,e,dd,r,u]&&allB (λi=>dB i o.n) [s,sd,B,e,dd,r,u]) [s,sd,B,e,dd,r,u]
noncomputable def tq(v:D):H:=match v with
 |.ref i=>i
 |_=>0
noncomputable def rk(B:G D)(i:H):H:=tq (oG .none (fJ B i))
noncomputable def acp(args:G D)(o:MH)(s B e u sd dd:H):aa (G H):=acq args o s B e u sd dd (tq (gf o dd eH eG).1)
noncomputable def Og(args:G D)(o:MH):aa (G H):=acp args o (rk args 0) (rk args 1) (rk args 2) (rk args 3) (oG (0,0) (te o (rk args 0))).2 (oG (0,0) (te o (rk args 2))).2
noncomputable def wE(R:G (G D))(b:G D):H->G D:=@b9 (G D) (λ_=>H->G D) (λ_=>b) (λ_ _ f n=>.tup [.ref n,.ref (cX n)]::f (cX (cX (cX n)))) R
noncomputable def AQ(B:G cL):MT->H->aa MT:=@b9 cL (λ_=>MT->H->aa MT) (λt _=>some t) (λE _ f t n=>@bN (λ_=>aa MT) .none (f (t.ins n E) (cX n)) (cJ ((t.ins n E).get n))) B
noncomputable def eL(R:G (G D)):H->G cL:=@b9 (G D) (λ_=>H->G cL) (λ_=>[]) (λg _ f n=>.list 400 g::.inst 200 (cX (cX n))::.dict [(.str eH,.any),(.str eG,.any)]::f (cX (cX (cX n)))) R
noncomputable def wL(f:H)(left:G D)(R:G (G D))(a b:D):G cL:=app (nR f left (wE R [] 7) a b) (eL R 7)
noncomputable def oW(f:H)(left:G D)(R:G (G D))(a b:D):MH:=fA (wL f left R a b)
noncomputable def BH(is:G H):G cL->MT->MT:=@b9 H (λ_=>G cL->MT->MT) (λ_ t=>t) (λi _ f os t=>match os with
 |[]=>t
 |E::os=>f os (t.set i E)) is
noncomputable def Gs(R:G (G D))(LB:G D)(p n sd dd r:H):G cL:=[.inst 338 sd,.dict [(.str nD,.tok 0),(.str nB,.fuel 3900)],.list 400 LB,.inst 200 dd,.dict [(.str eH,.ref r),(.str eG,.int 2)],.dict [(.str eE,.tok 3),(.str eD,.tok 4)],.list 400 (wE R (dh p .any) n)]
noncomputable def UM(res:ah)(R:G (G D))(LB:G D)(p:H)(o:MH)(is:G H):aa (D×MH):=match is with
 |[s,sd,B,e,dd,r,u]=>eQ (AQ (eL R o.n) (BH [s,sd,B,e,dd,r,u] (Gs R LB p o.n sd dd r) o.t) o.n) λt=>some ((match res with
   |true=>.ref e
   |false=>.none),⟨t,o.n+3*iA R⟩)
 |_=>.none
noncomputable def N5(lv:H)(res:ah)(R:G (G D))(LB:G D)(p:H)(a:H)(args:G D)(o:MH):aa (H×D×MH):=eQ (bO (bA a 277) ()) λ_=>eQ (Og args o) λis=>eQ (UM res R LB p o is) λq=>some (lv,q.1,q.2)
noncomputable def gp(W:bQ)(gX:H->G D->MH->aa (H×D×MH))(tv:H->aa D)(eq:D->D->aa ah)(pull:H):bQ:=⟨W.glob,W.fn,W.cls,pull,gX,tv,eq⟩
noncomputable def ip:cU (aa D):=⟨.none,λ_ _=>.none⟩
structure jP where
 a:H
 args:G D
 res:D
structure nW where
 a:H
 t:D
 x:ar
 r:D
 res:D
noncomputable def findB{α:Type}(f:α->ah)(B:G α):aa α:=@b9 α (λ_=>aa α) .none (λp _ O=>@bN (λ_=>aa α) O (some p) (f p)) B
noncomputable def Eo(P:G jP)(a:H)(args:G D):aa D:=eQ (findB (λp=>bA p.a a&&cT p.args args) P) λp=>some p.res
noncomputable def findD(bj:G nW)(a:H)(t:D)(x:ar)(r:D):aa D:=eQ (findB (λp=>bA p.a a&&eW p.t t&&seq p.x x&&eW p.r r) bj) λp=>some p.res
noncomputable def d1(R:G (D×D)):aa (ar×D):=match R with
 |[p]=>match p.1 with
  |.str x=>some (x,p.2)
  |_=>.none
 |_=>.none
noncomputable def N4(lv:H)(bj:G nW)(a:H)(args:G D)(o:MH):aa (H×D×MH):=eQ (eQ (vG o (rk args 1)) d1) λq=>eQ (findD bj a (oG .none (fJ args 0)) q.1 q.2) λm=>bO (cT args [oG .none (fJ args 0),.ref (rk args 1)]) (lv,m,o)
noncomputable def kP(lv:H)(P:G jP)(bj:G nW)(a:H)(args:G D)(o:MH):aa (H×D×MH):=match Eo P a args with
 |some m=>some (lv,m,o)
 |.none=>N4 lv bj a args o
noncomputable def kD(m:D)(o:MH):aa D:=match o.t.get 0 with
 |some E=>match E with
  |.dict R=>match R with
   |[p]=>some (.tup [p.1,p.2,m])
   |_=>.none
  |_=>.none
 |.none=>.none
structure Lz where
 L:Lk
 R:G (G D)
noncomputable def Li(v:D):aa (G D):=match v with
 |.tup B=>some B
 |_=>.none
noncomputable def Lj(B:G D):aa (D×D):=match B with
 |[]=>.none
 |a::B=>match B with
  |[]=>.none
  |b::B=>match B with
   |[]=>some (a,b)
   |_::_=>.none
noncomputable def D_(v:D):aa H:=match v with
 |.ref i=>some i
 |_=>.none
noncomputable def Ea(o:MH)(v:D):aa (G D×G H):=eQ (eQ (Li v) Lj) λp=>eQ (D_ p.1) λi=>eQ (D_ p.2) λj=>eQ (jj o i) λq=>eQ (te o j) λI=>eQ (d2 o I.2 eH eG) λ_=>
 bO (bA I.1 200&&eB 7 i&&eB 7 j&&eB 7 I.2) (q.2,[i,j,I.2])
noncomputable def Eb(o:MH)(B:G D):aa (G (G D)×G H):=@b9 D (λ_=>aa (G (G D)×G H)) (some ([],[])) (λv _ O=>eQ (Ea o v) λq=>eQ O λz=>some (q.1::z.1,app q.2 z.2)) B
noncomputable def tE(o:MH)(v:D):G H:=match v with
 |.ref i=>match o.t.get i with
  |some E=>match E with
   |.inst _ d=>[i,d]
   |_=>[]
  |.none=>[]
 |_=>[]
noncomputable def Za(o:MH)(L:Lk)(q:G (G D)×G H):aa Lz:=eQ (d2 o 5 eE eD) λr=>bO (yf q.2&&allB (λi=>!(mC i q.2)) (tE o r.1)&&allB (λi=>!(mC i q.2)) (tE o r.2)) ⟨L,q.1⟩
noncomputable def F6(o:MH):aa Lz:=eQ (lH false o) λL=>eQ (jj o 6) λu=>eQ (Eb o u.2) λq=>Za o L q
noncomputable def zI:cU (aa Lz):=⟨.none,λ_ _=>.none⟩
noncomputable def kZ(f:eh)(fr:Fm)(o:MH):aa Lz:=match f with
 |.next=>.none
 |.ret v=>match v with
  |.none=>F6 o
  |_=>.none
noncomputable def Nf(W:bQ)(n:H)(sc:G (ar×dc))(t:aX)(bd:G en)(o:MH):aa Lz:=(run zI W n).iO ⟨sc,.none⟩ t bd gY o kZ
section
variable{o:MH}{aL:H->aa D}
theorem A6(e:mC x B=false):x∉B:=by
 induction B with
 |nil=>exact λq=>nomatch q
 |cons a B O=>
  have e':@bN (λ_=>ah) (mC x B) true (bA a x)=false:=e
  generalize I:bA a x=ax at e'
  cases ax with
  |true=>exact bz e'.symm
  |false=>
   exact λq=>(bY.mp q).elim (λz=>CL I z.symm) (O e')
theorem Gm(e:yf B=true):B.Nodup:=by
 induction B with
 |nil=>exact rO
 |cons a B O=>
  refine xA (aN.mp (e:(!(mC a B)&&yf B)=true)) λe1 e2=>?_
  rw [wi] at e1
  exact ic.mpr ⟨A6 e1,O e2⟩
inductive kg(o:MH):G D->G (G D)->G H->Prop
 |nil:kg o [] [] []
 |cons {i j d bb:H} {g:G D} {E:D×D} {ws:G D} {R:G (G D)} {is:G H}:o.t.get i=some (.list bb g)->o.t.get j=some (.inst 200 d)->o.t.get d=some (.dict [(.str eH,E.1),(.str eG,E.2)])->7<=i->7<=j->7<=d->kg o ws R is->kg o (.tup [.ref i,.ref j]::ws) (g::R) (i::j::d::is)
structure Ent(o:MH)(v:D)(g:G D)(is:G H)(i j d:H):Prop where
 v:v=.tup [.ref i,.ref j]
 is:is=[i,j,d]
 p0:∃bb,o.t.get i=some (.list bb g)
 p1:o.t.get j=some (.inst 200 d)
 p2:∃E:D×D,o.t.get d=some (.dict [(.str eH,E.1),(.str eG,E.2)])
 l0:7<=i
 l1:7<=j
 l2:7<=d
theorem UY(e:Li v=some B):v=.tup B:=by
 cases v with
 |tup l'=>exact cq _ (aM e)
 |_=>exact aB e
theorem UZ(e:Lj B=some p):B=[p.1,p.2]:=by
 cases B with
 |nil=>exact aB e
 |cons a B=>cases B with
  |nil=>exact aB e
  |cons b B=>cases B with
   |nil=>rw [<-(aM e:(a,b)=p)]
   |cons=>exact aB e
theorem Ll(e:D_ v=some i):v=.ref i:=by
 cases v with
 |ref i'=>exact cq _ (aM e)
 |_=>exact aB e
theorem U0(e:Ea o v=some q):∃i j d,Ent o v q.1 q.2 i j d:=by
 refine ay (fp e) λp h0 e=>?_
 refine ay (fp h0) λB ha hb=>?_
 refine ay (fp e) λi h1 e=>?_
 refine ay (fp e) λj h2 e=>?_
 refine ay (fp e) λu h3 e=>?_
 refine ay (fp e) λI h4 e=>?_
 refine ay (fp e) λE h5 e=>?_
 refine xA (jA e) λcc aI=>?_;rw [<-aI]
 have h4:=GF h4
 have c4:=aN.mp cc
 have c3:=aN.mp c4.1
 have c2:=aN.mp c3.1
 exact⟨i,j,I.2,(UY ha).trans (cq _ ((UZ hb).trans (by rw [Ll h1,Ll h2]))),rfl,⟨_,sY h3⟩,dU c2.1▸h4,⟨_,DT h5⟩,dw c2.2,dw c3.2,dw c4.2⟩
theorem U1:∀{q:G (G D)×G H},Eb o B=some q->kg o B q.1 q.2:=by
 induction B with
 |nil=>exact λe=>aM e▸.nil
 |cons v B O=>
  intro q e
  refine ay (fp (show(eQ (Ea o v) λq=>eQ (Eb o B) λz=>some (q.1::z.1,app q.2 z.2))=some q from e)) λz h1 e=>?_
  refine ay (fp e) λy h2 e=>?_
  refine gK (U0 h1) λi j bB=>bw bB λd au=>?_
  refine bw au.p0 λbb p0=>?_
  refine bw au.p2 λE p2=>?_
  have:=kg.cons p0 au.p1 p2 au.l0 au.l1 au.l2 (O h2)
  rw [<-aM e,au.v]
  refine(?_:kg o _ (z.1::y.1) (app z.2 y.2))
  rw [au.is]
  exact this
structure RY(o:MH)(Z:Lz)(is:G H):Prop where
 ag1:CX o Z.L
 fl:Z.L.fl=false
 ag5:∃x y,o.t.get 5=some (.dict [(.str eE,x),(.str eD,y)])/\(∀i∈tE o x,i∉is)/\(∀i∈tE o y,i∉is)
 ents:∃b r,o.t.get 6=some (.list b r)/\kg o r Z.R is
 nd:is.Nodup
theorem Sj{α:Type}{f:α->ah}{B:G α}(e:allB f B=true):∀x∈B,f x=true:=by
 induction B with
 |nil=>exact λ_ h=>nomatch h
 |cons a B O=>
  have e:=aN.mp (e:(f a&&allB f B)=true)
  exact λx h=>(bY.mp h).elim (λz=>z▸e.1) (O e.2 x)
theorem Zb{Z:Lz}(e:F6 o=some Z):∃is,RY o Z is:=by
 refine ay (fp e) λL h1 e=>?_
 refine ay (fp e) λu h2 e=>?_
 refine ay (fp e) λq h3 e=>?_
 refine ay (fp e) λr h4 e=>?_
 refine xA (jA e) λI aI=>?_;rw [<-aI]
 have I:=aN.mp I
 have c1:=aN.mp I.1
 refine xA (s6 h1) λe1 e2=>?_
 have key:∀{B:G H},allB (λi=>!(mC i q.2)) B=true->∀i∈B,i∉q.2:=λh i hi=>A6 (by have:=Sj h i hi;rw [wi] at this;exact this)
 exact⟨q.2,e2,e1,⟨_,_,DT h4,key c1.2,key I.2⟩,⟨_,_,sY h2,U1 h3⟩,Gm c1.1⟩
noncomputable def lQ(i:H)(B:G H):aa H:=@b9 H (λ_=>aa H) none (λa _ O=>if a=i then some 0 else O.map cX) B
theorem Hd(e:lQ i B=some q):B[q]?=some i:=by
 induction B generalizing q with
 |nil=>exact aB e
 |cons a B O=>
  have e:(if a=i then some 0 else(lQ i B).map cX)=some q:=e
  by_cases h:a=i
  .rw [bT h] at e
   exact aM e▸cq some h
  .rw [bk h] at e
   refine ay (zt.mp e) λz h1 h2=>?_
   exact h2▸O h1
theorem Bt:∀{q:H},B.Nodup->B[q]?=some i->lQ i B=some q:=by
 induction B with
 |nil=>exact λ_ e=>nomatch e
 |cons a B O=>
  intro q nd e
  refine(?_:(if a=i then some 0 else(lQ i B).map cX)=some q)
  cases q with
  |zero=>exact bT (aM e)
  |succ q=>
   refine xA (ic.mp nd) λn1 n2=>?_
   have e:B[q]?=some i:=e
   rw [bk λ(h:a=i)=>n1 (h▸dy e),O n2 e]
   rfl
end
section
variable{c:a_}{w:dF}{F C ao:G aA}{J h:aP}{o br dz:MH}{aL aQ aJ:H->aa D}{f:H}{left:G D}{a b:D}
theorem OO(he:R.length<=2)(hj:j<7+3*R.length):(oW f left R a b).t.get j=(wL f left R a b)[j]?:=by
 cases R with
 |nil=>exact rZ (n:=7) (P:=λj=>(oW f left [] a b).t.get j=(wL f left [] a b)[j]?) ⟨rfl,rfl,rfl,rfl,rfl,rfl,rfl,trivial⟩ j hj
 |cons e R=>cases R with
  |nil=>exact rZ (n:=10) (P:=λj=>(oW f left [e] a b).t.get j=(wL f left [e] a b)[j]?) ⟨rfl,rfl,rfl,rfl,rfl,rfl,rfl,rfl,rfl,rfl,trivial⟩ j hj
  |cons e2 R=>cases R with
   |nil=>exact rZ (n:=13) (P:=λj=>(oW f left [e,e2] a b).t.get j=(wL f left [e,e2] a b)[j]?) ⟨rfl,rfl,rfl,rfl,rfl,rfl,rfl,rfl,rfl,rfl,rfl,rfl,rfl,trivial⟩ j hj
   |cons=>exact bP he (Ro (zr (zr (ug _))))
theorem D7(R:G (G D)):∀n:H,(eL R n).length=3*R.length:=by
 induction R with
 |nil=>exact λ_=>rfl
 |cons g R O=>exact λn=>cq (· +3) (O (n+3))
theorem afk(R:G (G D)):∀n:H,(wE R [] n).length=R.length:=by
 induction R with
 |nil=>exact λ_=>rfl
 |cons g R O=>exact λn=>cq (· +1) (O (n+3))
theorem OP(R:G (G D)):(oW f left R a b).n=7+3*R.length:=by
 refine(?_:(wL f left R a b).length=_)
 unfold wL
 rw [gM,fy,D7]
 rfl
theorem U2(au:kg o ws R is)(pe:∀e∈R,(∀m∈e,bC m=true)/\e.length<=400)(hb:∀(q i:H),is[q]?=some i->β i=some (n+q)):
  cG aQ aJ o β FZ ws (wE R [] n)/\∀(d i:H),is[d]?=some i->∃E o2,o.t.get i=some E/\(eL R n)[d]?=some o2/\gR aQ aJ o β FZ E o2:=by
 induction au generalizing n with
 |nil=>exact⟨.nil,λd i e=>nomatch e⟩
 |cons p0 p1 p2 _ _ _ _ O=>
  refine xA (O (λe he=>pe e (.tail _ he)) (n:=n+3) (λq i e=>(hb (q+3) i e).trans (by rw [ph,mV 3]))) λc1 c2=>?_
  have k:=pe _ (.head _)
  refine⟨.cons (.tup (.cons (.ref (hb 0 _ rfl)) (.cons (.ref (hb 1 _ rfl)) .nil))) c1,λq=>?_⟩
  refine match q with
  |0=>λi' e=>aM e▸⟨_,_,p0,rfl,.list (iw k.1) k.2 (by decide)⟩
  |1=>λi' e=>aM e▸⟨_,_,p1,rfl,.inst (hb 2 _ rfl)⟩
  |2=>λi' e=>aM e▸⟨_,_,p2,rfl,.dict (dD:=[(.str eH,.any),(.str eG,.any)]) rfl (.cons .any (.cons .any .nil))⟩
  |q+3=>c2 q
theorem kg.len(au:kg o ws R is):is.length=3*R.length:=by
 induction au with
 |nil=>rfl
 |cons _ _ _ _ _ _ _ O=>exact cq (· +3) O
theorem kg.BJ(au:kg o ws R is):∀i∈is,7<=i:=by
 induction au with
 |nil=>exact λ_ h=>nomatch h
 |cons _ _ _ a b I _ O=>exact λi h=>(bY.mp h).elim (λz=>z▸a) λh=>(bY.mp h).elim (λz=>z▸b) λh=>(bY.mp h).elim (λz=>z▸I) (O i)
theorem kg.at(S:St c (wb c w aL) J F C o h)(au:kg o ws R is):∀{V:G aw},aW c (wb c w aL) F C h ws V->∀i∈is,i<C.length:=by
 induction au with
 |nil=>exact λ_ _ h=>nomatch h
 |cons p0 p1 p2 _ _ _ _ O=>
  intro V x
  replace x:=x.cj;obtain⟨v,r,_,y,x⟩:=x
  refine gr.el y.gj λ_ _ _ _ _ _ z=>?_
  replace z:=z.cj;obtain⟨v0,r0,_,⟨a0,e0,_⟩,z⟩:=z
  replace z:=z.cj;obtain⟨v1,r1,_,⟨a1,e1,_⟩,z⟩:=z
  obtain⟨a2,e2,_⟩:∃dx,C[_]?=some dx/\h.get? a1=some (u4 200 dx):=S.ref e1 p1
  have lt:∀{i:H} {a:aA},C[i]?=some a->i<C.length:=λe=>(eM.mp e).1
  exact λi h=>(bY.mp h).elim (λz=>z▸lt e0) λh=>(bY.mp h).elim (λz=>z▸lt e1) λh=>(bY.mp h).elim (λz=>z▸lt e2) (O x i)
theorem adp(e:v=.ref i)(g:o.t.get i=some (.inst aq d)):tE o v=[i,d]:=by
 subst e
 unfold tE
 dsimp only
 rw [g]
theorem placesOf{B:G H}(hl:∀i∈B,i<ao.length):∃as:G aA,as.length=B.length/\∀(q:H) (a:aA),as[q]?=some a->∃i,B[q]?=some i/\ao[i]?=some a:=by
 induction B with
 |nil=>exact⟨[],rfl,λq a e=>nomatch e⟩
 |cons i B O=>
  refine ay (O λi hi=>hl i (.tail _ hi)) λas h1 h2=>?_
  refine⟨ao[i]'(hl i (.head _))::as,cq (· +1) h1,λq a e=>?_⟩
  cases q with
  |zero=>exact⟨i,rfl,aM e▸cV _⟩
  |succ q=>exact h2 q a e
noncomputable def bW(is:G H)(i:H):aa H:=if i<7 then some i else(lQ i is).map (7+·)
noncomputable def fW(is:G H)(i:H):Prop:=7<=i/\i∉is
theorem afl{Z:Lz}(S:St c (wb c w aQ) J F ao br h)(hp:C<+:ao)(dM:C.length=7)(hz:F6 br=some Z)(hf:Z.L.fuel=.fuel f)(Xs:∃m,aQ 0=some m/\aJ 0=some m)
  (ha:∀{β:H->aa H} {FZ:H->Prop} i,Z.L.a=.tok i->Cv aQ aJ br β FZ (.tok i) ca) (ny:(∀i,Z.L.a≠.tok i)->ca=Z.L.a) (hb:∀{β:H->aa H} {FZ:H->Prop} i,Z.L.b=.tok i->Cv aQ aJ br β FZ (.tok i) cb) (Wr:(∀i,Z.L.b≠.tok i)->cb=Z.L.b)
  (pl:∀m∈Z.L.left,bC m=true) (ll:Z.L.left.length<=400) (pe:∀e∈Z.R,(∀m∈e,bC m=true)/\e.length<=400) (le:Z.R.length<=2):
  ∃yX,C<+:yX/\(∀z∈yX,z∈ao)/\St c (wb c w aJ) J F yX (oW f Z.L.left Z.R ca cb) h:=by
 refine bw (Zb hz) λis sw=>?_
 obtain⟨⟨x0,x1,⟨b2,x2⟩,x3,x4,⟨x5,y5,x6,x7,x8⟩,_⟩,_,⟨afY,af0,P0,n1,n2⟩,⟨b6,r6,x9,au⟩,nd⟩:=sw
 rw [x6] at P0
 obtain⟨rfl,rfl⟩:x5=afY/\y5=af0:=by
  injection P0 with q;injection q with q;injection q with q1 q;injection q with q2 q
  injection q1 with _ q1;injection q2 with _ q2
  exact⟨q1,q2⟩
 have aak:ao.Nodup:=S.apart
 have M6:=au.len
 have sv:=au.BJ
 have h7:7<=ao.length:=dM▸hp.length_le
 refine eO (S.ref (cV (show 6<ao.length from h7)) x9) λahb _ _ y6 _=>?_
 have inr:∀i∈is,i<ao.length:=au.at S y6
 refine ay (placesOf inr) λas FJ L9=>?_
 have place:∀(j:H) (a:aA),(C++as)[j]?=some a->∃i,ao[i]?=some a/\((i=j/\j<7)\/(7<=j/\is[j-7]?=some i)):=by
  intro j a e
  by_cases hj:j<7
  .rw [iD (dM.symm▸hj)] at e
   exact⟨j,by rw [ja hp (dM.symm▸hj)];exact e,.inl ⟨rfl,hj⟩⟩
  .rw [mS (dM.symm▸g7.mp hj),dM] at e
   refine ay (L9 _ _ e) λi e1 e2=>?_
   exact⟨i,e2,.inr ⟨g7.mp hj,e1⟩⟩
 have sub:∀z∈C++as,z∈ao:=λz hz=>by
  obtain⟨j,hj,e⟩:=iE hz
  refine ay (place j z (by rw [cV hj,e])) λi e2 _=>?_
  exact dy e2
 refine⟨C++as,wF ..,sub,?_⟩
 have same:∀{i j:H} {a:aA},ao[i]?=some a->ao[j]?=some a->i=j:=λe e3=>by
  refine bw (eM.mp e) λl1 l2=>?_
  refine bw (eM.mp e3) λl3 l4=>?_
  exact(rK (h₀:=l1) (h₁:=l3) aak).mp (l2.trans l4.symm)
 have Gl:(C++as).Nodup:=by
  rw [List.Nodup,Cz]
  intro i j hi hj uR e
  refine ay (place i _ (cV hi)) λi' e1 c1=>?_
  refine ay (place j _ (cV hj)) λj' e2 c2=>?_
  rw [e] at e1
  have q:=same e1 e2
  subst q
  rcases c1 with⟨z1,z2⟩|⟨z1,z2⟩<;>rcases c2 with⟨z3,z4⟩|⟨z3,z4⟩
  .exact bP uR (by rw [<-z1,z3];exact zo _)
  .exact bP z2 (g7.mpr (z1▸sv _ (dy z4)))
  .exact bP z4 (g7.mpr (z3▸sv _ (dy z2)))
  .refine bw (eM.mp z2) λl1 l2=>?_
   refine bw (eM.mp z4) λl3 l4=>?_
   exact bP ((rK (h₀:=l1) (h₁:=l3) nd).mp (l2.trans l4.symm)) (rU (Nat.sub_lt_sub_right z1 uR))
 have XF:∀(q i:H),is[q]?=some i->bW is i=some (7+q):=λq i e=>by
  have:=sv _ (dy e)
  unfold bW
  rw [bk (g7.mpr this),Bt nd e];rfl
 refine xA (U2 (aQ:=aQ) (aJ:=aJ) (β:=bW is) (FZ:=fW is) au pe (n:=7) XF) λcW cO=>?_
 have lw:=afk Z.R 7
 refine S.mJ (β:=bW is) (FZ:=fW is) (by rw [OP,fy,FJ,M6,dM]) Gl (λa ha=>?_) (λa E _ sf=>⟨sf.1,λq=>sf.2 (sub a q)⟩) (λi a hi e=>⟨λq=>?_,λq=>?_⟩) (λi j a e q=>?_) (λj a e=>?_)
 .refine cf (S.cI a ha) λq1 q2 q3=>?_
  exact⟨q1,λz=>q2 (sub a z),q3⟩
 .exact(S.cI a q).2.1 (dy e)
 .obtain⟨j,hj,e2⟩:=iE q
  refine ay (place j a (by rw [cV hj,e2])) λi' e3 I=>?_
  have q:=same e e3
  obtain rfl:=q.symm
  rcases I with⟨c1,c2⟩|⟨_,c2⟩
  .exact bP c2 (g7.mpr (c1▸hi.1))
  .exact hi.2 (dy c2)
 .have e:(if i<7 then some i else(lQ i is).map (7+·))=some j:=e
  by_cases h:i<7
  .rw [bT h] at e
   rw [<-aM e,iD (dM.symm▸h),<-ja hp (dM.symm▸h)]
   exact q
  .rw [bk h] at e
   refine ay (zt.mp e) λy z aE=>?_;rw [<-aE]
   have z:=Hd z
   refine(?_:(C++as)[7+y]?=some a)
   rw [mS (dM.symm▸ig 7 y),dM,jO]
   have hy:y<as.length:=by rw [FJ];exact(eM.mp z).1
   refine ay (L9 y _ (cV hy)) λi' e1 e2=>?_
   rw [<-aM (z.symm.trans e1)] at e2
   exact(cV hy).trans (e2.symm.trans q)
 .have hj:j<7+3*Z.R.length:=by have:=(eM.mp e).1;rw [fy,FJ,M6,dM] at this;exact this
  refine ay (place j a e) λi e' I=>?_
  rw [OO le hj]
  rcases I with⟨rfl,hj⟩|⟨hj,I⟩
  .refine ay Xs λm0 t1 t2=>?_
   have fz:∀{v:D},(∀i∈tE br v,i∉is)->∀i aq d,v=.ref i->br.t.get i=some (.inst aq d)->7<=i->7<=d->fW is i/\fW is d:=λn i aq d ev g l1 l2=>by
    rw [adp ev g] at n
    exact⟨⟨l1,n i (.head _)⟩,⟨l2,n d (.tail _ (.head _))⟩⟩
   refine rZ (n:=7) (P:=λj=>ao[j]?=some a->∃i E o2,ao[i]?=some a/\br.t.get i=some E/\(wL f Z.L.left Z.R ca cb)[j]?=some o2/\gR aQ aJ br (bW is) (fW is) E o2) ?_ i hj e'
   exact⟨λe'=>⟨6,_,_,e',x9,rfl,.list cW (by rw [lw];exact dQ le (by decide)) (by decide)⟩,
    λe'=>⟨5,_,_,e',x6,rfl,.dict rfl (.cons (zZ (v2:=ca) (fz n1) ha ny x7) (.cons (zZ (v2:=cb) (fz n2) hb Wr x8) .nil))⟩,
    λe'=>⟨4,_,_,e',x4,rfl,.dict rfl (.cons (.ref rfl) (.cons (.same rfl) .nil))⟩,
    λe'=>⟨3,_,_,e',x3,rfl,.inst rfl⟩,
    λe'=>⟨2,_,_,e',x2,rfl,.list (iw pl) ll (by decide)⟩,
    λe'=>⟨1,_,_,e',x1,rfl,.dict rfl (.cons (.gZ t1 t2) (.cons (by rw [hf];exact .same rfl) .nil))⟩,
    λe'=>⟨0,_,_,e',x0,rfl,.inst rfl⟩,trivial⟩
  .refine eO (cO _ _ I) λE o2 g1 g2 g3=>?_
   refine⟨i,E,o2,e',g1,?_,g3⟩
   unfold wL
   rw [gM,mS (by exact hj)]
   exact g2
end
noncomputable def tabS(KT x y:D):H->aa D
 |0=>some KT
 |1=>some x
 |2=>some y
 |_=>.none
noncomputable def aU(KT:D):H->aa D
 |0=>some KT
 |_=>.none
inductive Tk(aQ aJ:H->aa D):D->D->Prop
 |same {m:D}:bC m=true->Tk aQ aJ m m
 |eT {m:D} {j:H}:bC m=true->cJ (handed m)=true->aJ j=some m->Tk aQ aJ m (.tok j)
 |fe {m:D} {i:H}:aQ i=some m->Tk aQ aJ (.tok i) m
section
variable{c:a_}{w:dF}{Y:bG}{F C ao:G aA}{s:aT}{J h M:aP}{o br:MH}{W:bQ}{n:H}{X:cK}{aL aQ aJ:H->aa D}
 {sc:G (ar×dc)} {t:aX} {bd:G en} {f:H} {left jl wr:G D} {a b a' b' KT:D}
theorem Tk.cv(t:Tk aQ aJ m m'):Cv aQ aJ o β FZ m m':=by
 cases t with
 |same p=>exact .same p
 |eT p q e=>exact .eT p q e
 |fe e=>exact .fe e
theorem BR(S:St c (wb c w aQ) J F C (stH f left wr a b) h)(h1:aQ 0=some KT)(h2:aJ 0=some KT)(hL:∀(o:MH) (β:H->aa H) (FZ:H->Prop),cG aQ aJ o β FZ left jl)(ll:left.length<=400)(lw:wr.length<=400)(ka:Tk aQ aJ a a')(kb:Tk aQ aJ b b'):
  St c (wb c w aJ) J F C (stH f jl (dh wr.length .any) a' b') h:=by
 have dM:C.length=7:=S.len.symm
 refine S.mJ (β:=some) (FZ:=λ_=>dP) S.len S.apart S.cI (λa E _ sf=>sf) (λi a hi e=>hi.elim) (λi j a e q=>aM e▸q) (λj I e=>?_)
 have hj:j<7:=dM▸(eM.mp e).1
 rw [BQ hj]
 refine rZ (n:=7) (P:=λj=>C[j]?=some I->∃i E o2,C[i]?=some I/\(stH f left wr a b).t.get i=some E/\(nR f jl (dh wr.length .any) a' b')[j]?=some o2/\gR aQ aJ (stH f left wr a b) some (λ_=>dP) E o2) ?_ j hj e
 exact⟨λe=>⟨6,_,_,e,rfl,rfl,.list xd (by rw [dZ];exact lw) (by decide)⟩,λe=>⟨5,_,_,e,rfl,rfl,.dict rfl (.cons ka.cv (.cons kb.cv .nil))⟩,λe=>⟨4,_,_,e,rfl,rfl,.dict rfl (.cons (.ref rfl) (.cons (.same rfl) .nil))⟩,λe=>⟨3,_,_,e,rfl,rfl,.inst rfl⟩,λe=>⟨2,_,_,e,rfl,rfl,.list (hL _ _ _) (by rw [(hL ⟨.nil,0⟩ (λ_=>.none) (λ_=>dP)).length];exact ll) (by decide)⟩,λe=>⟨1,_,_,e,rfl,rfl,.dict rfl (.cons (.gZ h1 h2) (.cons (.same rfl) .nil))⟩,λe=>⟨0,_,_,e,rfl,rfl,.inst rfl⟩,trivial⟩
theorem oq(aq:Ctx c (wb c w aQ) J n Y F C s (stH f left wr a b) ⟨sc,.none⟩ gY X)(h1:aQ 0=some KT)(h2:aJ 0=some KT)(hL:∀(o:MH) (β:H->aa H) (FZ:H->Prop),cG aQ aJ o β FZ left jl)(ll:left.length<=400)(lw:wr.length<=400)(ka:Tk aQ aJ a a')(kb:Tk aQ aJ b b'):
  Ctx c (wb c w aJ) J n Y F C s (stH f jl (dh wr.length .any) a' b') ⟨sc,.none⟩ gY X:=by
 refine⟨aq.room,BR aq.st h1 h2 hL ll lw ka kb,?_⟩
 have az:dm c (wb c w aQ) F C s.heap sc gY.vars X:=aq.fr
 refine az.weak az.own λi m' e=>?_
 have ref:∀{j:H},∀v,VR c (wb c w aQ) F C s.heap (.ref j) v->VR c (wb c w aJ) F C s.heap (.ref j) v:=by
  intro j v x
  exact x
 match i,e with
 |0,e=>cases e;exact⟨_,rfl,ref⟩
 |1,e=>cases e;exact⟨_,rfl,ref⟩
 |2,e=>cases e;exact⟨_,rfl,ref⟩
 |3,e=>cases e;exact⟨_,rfl,ref⟩
 |4,e=>cases e
 |5,e=>cases e
 |i+6,e=>exact aB e
noncomputable def Row(W:bQ)(n:H)(sc:G (ar×dc))(t:aX)(bd:G en)(g a b:D)(fl:ah)(subs:G D)(a' b':D)(p:H):Prop:=
 ∀f aY wr,turn W n sc t bd (stH (cX f) (g::aY) wr a b)=some ⟨fl,.fuel f,subs++aY,a',b',iA wr+p⟩
noncomputable def un(x:D)(i:H)(m:D):D:=match m with
 |.tok j=>match bA j i with
  |true=>x
  |false=>m
 |m=>m
noncomputable def jQ(x:D)(i:H)(m:D):Prop:=m=x\/m=.tok i
noncomputable def Left(i:H)(m:D):Prop:=bC m=true\/m=.tok i
noncomputable def cR(m:D):ah:=bC m&&cJ (handed m)
set_option genCtorIdx false in
inductive mf where
 |good (x y:D)|bad (R:G (G D)) (left:G D) (x y:D)
noncomputable def mf.ctorIdx(x:mf):H:=@mf.rec (λ_=>H) (λ_ _=>0) (λ_ _ _ _=>1) x
noncomputable def CW(W:bQ)(n:H)(sc:G (ar×dc))(t:aX)(bd:G en)(gs:G D)(a b:D)(k:H)(R:G (G D))(lf:G D)(a' b':D):Prop:=
 ∀f aY,Nf W n sc t bd (stH (f+k) (gs++aY) [] a b)=some ⟨⟨false,.fuel f,lf++aY,a',b',R.length⟩,R.map λe=>e++aY⟩
inductive Chain(W:bQ)(n:H)(sc:G (ar×dc))(t:aX)(bd:G en):G D->D->D->H->H->mf->Prop
 |done {x y:D}:Chain W n sc t bd [] x y 0 0 (.good x y)
 |turn {g:D} {aY subs:G D} {x y a b a' b':D} {p k q:H} {E:mf}:Row W n sc t bd g a b true subs a' b' p->jQ x 1 a->jQ y 2 b->Left 1 a'->Left 2 b'->(∀m∈subs,bC m=true)->subs.length<=6->cR (un x 1 a')=true->cR (un y 2 b')=true->
   Chain W n sc t bd (subs++aY) (un x 1 a') (un y 2 b') k q E->Chain W n sc t bd (g::aY) x y (k+1) (p+q) E
 |fail {g:D} {aY subs:G D} {x y a b a' b':D} {p:H}:Row W n sc t bd g a b false subs a' b' p->jQ x 1 a->jQ y 2 b->Left 1 a'->Left 2 b'->(∀m∈subs,bC m=true)->subs.length<=6->Chain W n sc t bd (g::aY) x y 1 p (.bad [] (subs++aY) (un x 1 a') (un y 2 b'))
 |last {gs aY lf:G D} {R:G (G D)} {x y a b a' b':D} {k:H}:CW W n sc t bd gs a b k R lf a' b'->jQ x 1 a->jQ y 2 b->Left 1 a'->Left 2 b'->(∀m∈lf,bC m=true)->lf.length<=6->(∀e∈R,(∀m∈e,bC m=true)/\e.length<=6)->R.length<=2->Chain W n sc t bd (gs++aY) x y k 0 (.bad (R.map λe=>e++aY) (lf++aY) (un x 1 a') (un y 2 b'))
theorem ry{x y m:D}(hx:cR x=true)(e:jQ x i m)(ht:aJ i=some x):Tk aQ aJ x m:=by
 refine xA (aN.mp hx) λh1 h2=>?_
 rcases e with rfl|rfl
 .exact .same h1
 .exact .eT h1 h2 ht
theorem yJ(e:Left i m)(ht:aQ i=some x):Tk aQ aJ m (un x i m):=by
 rcases e with e|rfl
 .have:un x i m=m:=by
   cases m with
   |tok j=>exact bz e
   |_=>rfl
  rw [this]
  exact .same e
 .have:un x i (.tok i)=x:=by
   refine(?_:(match bA i i with|true=>x|false=>D.tok i)=x)
   rw [CH]
  rw [this]
  exact .fe ht
theorem xZ(e:Left i m)(h:m=.tok j):j=i:=by
 rcases e with e|rfl
 .subst h;exact bz e
 .cases h;rfl
noncomputable def je(c:a_)(w:dF)(J:aP)(KT:D)(n:H)(sc:G (ar×dc))(t:aX)(bd:G en)(left:G D)(x y:D)(k p:H)(E:mf):Prop:=
 ∀(Y:bG) (F C:G aA) (X:cK) (f m:H) (s:aT) (R':Result->aT->Prop),C.length=7->cR x=true->cR y=true->k<=f->left.length+6*k<=390->m+p<=400->(∀R B x' y',E=.bad R B x' y'->m+p=0)->
   Ctx c (wb c w (aU KT)) J n Y F C s (stH f left (dh m .any) x y) ⟨sc,.none⟩ gY X->
   (∀x' y',E=.good x' y'->∀f' M tk,f<=f'+k->bh (ownOf X) C s.heap C M->Ctx c (wb c w (aU KT)) J n Y F C {s with heap:=M,toks:=tk} (stH f' [] (dh (m+p) .any) x' y') ⟨sc,.none⟩ gY X->R' (.ok .next) {s with heap:=M,toks:=tk})->
   (∀R jl x' y',E=.bad R jl x' y'->∀f' ao M tk,f<=f'+k->bh (ownOf X) C s.heap ao M->dm c (wb c w (aU KT)) F ao M sc [] X->St c (wb c w (aU KT)) J F ao (oW f' jl R x' y') M->R' (.ok (.ret .none)) {s with heap:=M,toks:=tk})->
   lB (bK c w) Y (.whileLoop t bd [] X) R' s
theorem Pw(h:∀j,m≠.tok j):un x i m=m:=by
 cases m with
 |tok j=>exact bP rfl (h j)
 |_=>rfl
theorem Px(e:Left i m)(h:m=.tok j)(ht:aQ i=some x):Cv aQ aJ o β FZ (.tok j) (un x i m):=by
 have q:=xZ e h
 skip
 exact h▸(yJ e ht).cv
theorem adP{i:H}{m:D}(e:gY.vars[i]?=some (some m)):∃j,j<7/\m=.ref j:=by
 have h:=dy e
 simp only [gY,bY,Option.some.injEq,reduceCtorEq,eP,gH] at h
 rcases h with h|h|h|h<;>exact⟨_,by decide,h⟩
theorem vh{a b:H}(h:a+b<=390):a<=400:=dQ (dQ (ig ..) h) (by decide)
theorem F_{s r k:H}(ls:s<=6)(hl:r+1+6*(k+1)<=390):s+r+6*k<=390:=
 dQ (ua (ua ls r) (6*k)) (dQ (dQ (CK (by rw [Rn,mV 6 r,ph,mV 6])) (ua (ue r) (6*(k+1)))) hl)
theorem Nj{a g r I:H}(h:a<=6)(hl:g+r+I<=390):a+r<=400:=dQ (CE h (dQ (dQ (ud r g) (ig _ I)) hl)) (by decide)
theorem TC(gq:∀(x y:D) (bu:Lk),Sound (λr:aa Lk=>r=some bu) c (wb c w (tabS KT x y)) J n (run jR W n))(pL:∀f wr,Il W n sc t bd (stH f [] wr (.tok 1) (.tok 2))=some ⟨true,.fuel f,[],.tok 1,.tok 2,iA wr⟩){x y:D}:je c w J KT n sc t bd [] x y 0 0 (.good x y):=by
 intro Y F C X f m s R' dM gh gi hk hl hm hb aq hd hf
 have pl:∀z∈([]:G D),bC z=true:=λz hz=>nomatch hz
 have C':=oq (aJ:=tabS KT x y) aq rfl rfl (λ_ _ _=>iw pl) (gD _) (by rw [dZ];exact hm) (ry (i:=1) (y:=y) gh (.inr rfl) rfl) (ry (i:=2) (y:=x) gi (.inr rfl) rfl)
 rw [dZ] at C'
 have cS:=pL f (dh m .any)
 have BK:∀{ao M},bh (eI ⟨sc,.none⟩ X) C s.heap ao M->bh (ownOf X) C s.heap C M:=λst=>⟨mT _,st.keep,λb E e n=>⟨(st.out b E e n).1,n⟩⟩
 refine whl_turn (ae:=λr:aa Lk=>r=some ⟨true,.fuel f,[],.tok 1,.tok 2,iA (dh m D.any)⟩) (w:=wb c w (tabS KT x y)) (AZ:=λo=>lH true o) (sW:=λ_ _ _=>.none) (gq x y _).ex (gq x y _).fh C' cS (λao M tk br st hh S' G'=>?_) (λao M tk br cy st hh S' G'=>nomatch hh) (λao M tk br cy m v st hh S' _ x=>nomatch hh)
 .refine xA (s6 hh) λ_ e2=>?_
  have hR:=BD S' st.pre dM e2 rfl ⟨_,rfl⟩ (λi e=>by cases e;exact⟨_,rfl⟩) (λi e=>by cases e;exact⟨_,rfl⟩) (λ_ _ _=>.nil) (gD _) (by rw [nE,dZ];exact hm)
  have G':dm c (wb c w (tabS KT x y)) F ao M sc gY.vars X:=G'
  have C3:dm c (wb c w (aU KT)) F C s.heap sc gY.vars X:=aq.fr
  have CC:Ctx c (wb c w (tabS KT x y)) J n Y F C {s with heap:=M,toks:=tk} _ ⟨sc,.none⟩ gY X:=⟨aq.room,hR,G'.weak C3.own λi m' e=>by
   have ref:∀{j:H},j<7->∀v,VR c (wb c w (tabS KT x y)) F ao M (.ref j) v->VR c (wb c w (tabS KT x y)) F C M (.ref j) v:=by
    intro j hj v x
    refine ay x λad e r=>?_
    exact⟨ad,by rw [<-ja st.pre (dM.symm▸hj)];exact e,r⟩
   refine ay (adP e) λj hj aE=>?_;subst aE
   exact⟨_,e,ref hj⟩⟩
  have C4:=oq (aJ:=aU KT) CC rfl rfl (λ_ _ _=>.nil) (gD _) (by rw [dZ,nE,dZ];exact hm) (a':=x) (b':=y) (.fe rfl) (.fe rfl)
  rw [dZ,nE,dZ] at C4
  exact hd x y rfl f M tk (fG _) (BK st) C4
theorem TH(gq:∀(x y:D) (bu:Lk),Sound (λr:aa Lk=>r=some bu) c (wb c w (tabS KT x y)) J n (run jR W n)){g:D}{aY subs:G D}{x y a b a' b':D}{p k q:H}{E:mf}(cS:Row W n sc t bd g a b true subs a' b' p)(sa:jQ x 1 a)(sb:jQ y 2 b)(la:Left 1 a')(lb:Left 2 b')(ps:∀m∈subs,bC m=true)(ls:subs.length<=6)(ox:cR (un x 1 a')=true)(oy:cR (un y 2 b')=true)
  (ch:je c w J KT n sc t bd (subs++aY) (un x 1 a') (un y 2 b') k q E) (pl:∀z∈g::aY,bC z=true):je c w J KT n sc t bd (g::aY) x y (k+1) (p+q) E:=by
 intro Y F C X f m s R' dM gh gi hk hl hm hb aq hd hf
 obtain⟨f,rfl⟩:∃f',f=cX f':=CJ (wI (nY (ug k) hk))
 have C':=oq (aJ:=tabS KT x y) aq rfl rfl (λ_ _ _=>iw pl) (vh hl) (by rw [dZ];exact dQ (ig ..) hm) (ry (i:=1) (y:=y) gh sa rfl) (ry (i:=2) (y:=x) gi sb rfl)
 rw [dZ] at C'
 have cS:=cS f aY (dh m .any)
 rw [nE,dZ] at cS
 have yx:∀z∈subs++aY,bC z=true:=λz hz=>(dI.mp hz).elim (ps z) λh=>pl z (.tail _ h)
 have vn:(subs++aY).length+6*k<=390:=by rw [fy];exact F_ ls hl
 have mp:m+p<=400:=dQ (CF (ig p q) m) hm
 refine BI (gq x y _) C' dM cS rfl ⟨_,rfl⟩ (λi e=>by rw [xZ la e];exact⟨_,rfl⟩) (λi e=>by rw [xZ lb e];exact⟨_,rfl⟩) (λ_ _ _=>iw yx) (vh vn) mp (λ_ M tk st C3=>?_) (λe=>nomatch e)
 have C4:=oq (aJ:=aU KT) C3 rfl rfl (λ_ _ _=>iw yx) (vh vn) (by rw [dZ];exact mp) (yJ (x:=x) la rfl) (yJ (x:=y) lb rfl)
 rw [dZ] at C4
 refine ch Y F C X f (m+p) {s with heap:=M,toks:=tk} R' dM ox oy (Jw hk) vn (ph m p q▸hm) (λR B x' y' e=>(ph m p q).trans (hb R B x' y' e)) C4 (λx' y' e f' h2 bS lf bp C5=>?_) (λR jl x' y' e f' bf h2 bS lf bp G5 S5=>?_)
 .rw [ph] at C5
  exact hd x' y' e f' h2 bS (n4 lf) (st.trans bp) C5
 .exact hf R jl x' y' e f' bf h2 bS (n4 lf) (st.trans bp) G5 S5
theorem TF(gq:∀(x y:D) (bu:Lk),Sound (λr:aa Lk=>r=some bu) c (wb c w (tabS KT x y)) J n (run jR W n)){g:D}{aY subs:G D}{x y a b a' b':D}{p:H}(cS:Row W n sc t bd g a b false subs a' b' p)(sa:jQ x 1 a)(sb:jQ y 2 b)(la:Left 1 a')(lb:Left 2 b')(ps:∀m∈subs,bC m=true)(ls:subs.length<=6)
  (pl:∀z∈g::aY,bC z=true):je c w J KT n sc t bd (g::aY) x y 1 p (.bad [] (subs++aY) (un x 1 a') (un y 2 b')):=by
 intro Y F C X f m s R' dM gh gi hk hl hm hb aq hd hf
 obtain⟨f,rfl⟩:∃f',f=cX f':=CJ (wI hk)
 have C':=oq (aJ:=tabS KT x y) aq rfl rfl (λ_ _ _=>iw pl) (vh hl) (by rw [dZ];exact dQ (ig ..) hm) (ry (i:=1) (y:=y) gh sa rfl) (ry (i:=2) (y:=x) gi sb rfl)
 rw [dZ] at C'
 have cS:=cS f aY (dh m .any)
 rw [nE,dZ] at cS
 have yx:∀z∈subs++aY,bC z=true:=λz hz=>(dI.mp hz).elim (ps z) λh=>pl z (.tail _ h)
 have vn:(subs++aY).length<=400:=by rw [fy];exact vh (F_ (k:=0) ls hl)
 refine BI (gq x y _) C' dM cS rfl ⟨_,rfl⟩ (λi e=>by rw [xZ la e];exact⟨_,rfl⟩) (λi e=>by rw [xZ lb e];exact⟨_,rfl⟩) (λ_ _ _=>iw yx) vn hm (λe=>nomatch e) (λ_ M tk st G3 S3=>?_)
 have S4:=BR (aJ:=aU KT) S3 rfl rfl (λ_ _ _=>iw yx) vn (by rw [dZ];exact hm) (yJ (x:=x) la rfl) (yJ (x:=y) lb rfl)
 rw [dZ,show m+p=0 from hb _ _ _ _ rfl] at S4
 exact hf _ _ _ _ rfl f C M tk (fG _) st (G3.bare G3.own) S4
theorem chain_last(C6:∀(x y:D) (bu:Lz),Sound (λr:aa Lz=>r=some bu) c (wb c w (tabS KT x y)) J n (run zI W n)){gs aY lf:G D}{R:G (G D)}{x y a b a' b':D}{k:H}(cS:CW W n sc t bd gs a b k R lf a' b')(sa:jQ x 1 a)(sb:jQ y 2 b)(la:Left 1 a')(lb:Left 2 b')(ps:∀m∈lf,bC m=true)(ls:lf.length<=6)(pe:∀e∈R,(∀m∈e,bC m=true)/\e.length<=6)(le:R.length<=2)
  (pl:∀z∈gs++aY,bC z=true):je c w J KT n sc t bd (gs++aY) x y k 0 (.bad (R.map λe=>e++aY) (lf++aY) (un x 1 a') (un y 2 b')):=by
 intro Y F C X f m s R' dM gh gi hk hl hm hb aq hd hf
 obtain⟨f,rfl⟩:∃f',f=f'+k:=Nat.exists_eq_add_of_le' hk
 have Xa:m=0:=hb _ _ _ _ rfl
 subst Xa
 have C':=oq (aJ:=tabS KT x y) aq rfl rfl (λ_ _ _=>iw pl) (vh hl) (by rw [dZ];exact gD _) (ry (i:=1) (y:=y) gh sa rfl) (ry (i:=2) (y:=x) gi sb rfl)
 have pr:∀z∈aY,bC z=true:=λz hz=>pl z (fC _ hz)
 refine(C6 x y _).iO _ _ _ _ _ _ _ _ _ _ _ _ C' (cS f aY) λfw ao M tk st pf=>?_
 obtain⟨g,cy,br,hh,S',G',fl⟩:=pf
 cases g with
 |next=>nomatch hh
 |ret v=>
  refine ay fl ?_;clear fl;intro v' aI xv;subst aI
  cases v with
  |none=>
   subst xv
   have G':dm c (wb c w (tabS KT x y)) F ao M sc cy.vars X:=G'
   have SW:=afl (aJ:=aU KT) (ca:=un x 1 a') (cb:=un y 2 b') S' st.pre dM hh rfl ⟨_,rfl,rfl⟩ (λi e=>Px la e rfl) Pw (λi e=>Px lb e rfl) Pw (λm hm=>(dI.mp hm).elim (ps m) (pr m)) (by rw [fy];exact Nj ls (fy▸hl)) (λe he=>by
    refine ay (cF.mp he) λe0 h0 aE=>?_;subst aE
    have:=(pe e0 h0).2
    exact⟨λm hm=>(dI.mp hm).elim ((pe e0 h0).1 m) (pr m),by rw [fy];exact Nj this (fy▸hl)⟩) (by rw [cZ];exact le)
   refine fM SW ?_;clear SW;intro yX pre sub SW
   exact hf _ _ _ _ rfl f yX M tk (fG _) ⟨pre,st.keep,λb E e n=>⟨(st.out b E e n).1,λq=>(st.out b E e n).2 (sub b q)⟩⟩ (G'.bare G'.own) SW
  |_=>nomatch hh
theorem TG(gq:∀(x y:D) (bu:Lk),Sound (λr:aa Lk=>r=some bu) c (wb c w (tabS KT x y)) J n (run jR W n))(C6:∀(x y:D) (bu:Lz),Sound (λr:aa Lz=>r=some bu) c (wb c w (tabS KT x y)) J n (run zI W n))
  (pL:∀f wr,Il W n sc t bd (stH f [] wr (.tok 1) (.tok 2))=some ⟨true,.fuel f,[],.tok 1,.tok 2,iA wr⟩):
  ∀{left:G D} {x y:D} {k p:H} {E:mf},Chain W n sc t bd left x y k p E->(∀z∈left,bC z=true)->je c w J KT n sc t bd left x y k p E:=by
 intro left x y k p E ch
 induction ch with
 |done=>exact λ_=>TC gq pL
 |turn cS sa sb la lb ps ls ox oy _ O=>exact λpl=>TH gq cS sa sb la lb ps ls ox oy (O λz hz=>(dI.mp hz).elim (ps z) λh=>pl z (.tail _ h)) pl
 |fail cS sa sb la lb ps ls=>exact TF gq cS sa sb la lb ps ls
 |last cS sa sb la lb ps ls pe le=>exact chain_last C6 cS sa sb la lb ps ls pe le
end
section
variable{c:a_}{w:dF}{Y:bG}{F C ao:G aA}{s:aT}{J h M:aP}{o br:MH}{K:b8}{W WE:bQ}{mg mb:ar->aa aw}{n:H}{X:cK}{aL aQ aJ:H->aa D}
 {sc:G (ar×dc)} {t:aX} {bd rs:G en} {f:H} {left wr:G D} {a b a' b' KT:D}
inductive Ends(g9:D->Prop)(c:a_)(w:dF)(J:aP)(KT:D)(WE:bQ)(n:H)(sc:G (ar×dc))(t:aX)(bd rs:G en)(left:G D)(x y:D)(k p:H):mf->Prop
 |good {x' y':D}:je c w J KT n sc t bd left x y k p (.good x' y')->cR x'=true->cR y'=true->g9 y'->(∀f wr,v_ WE n sc rs (stH f [] wr x' (.tok 2))=some ⟨true,.fuel f,[],x',.tok 2,iA wr⟩)->Ends g9 c w J KT WE n sc t bd rs left x y k p (.good x' y')
 |MY {x' y':D}:je c w J KT n sc t bd left x y k p (.good x' y')->cR x'=true->cR y'=true->g9 y'->(∀f wr,v_ WE n sc rs (stH f [] wr x' (.tok 2))=some ⟨false,.fuel f,[],x',.tok 2,iA wr⟩)->Ends g9 c w J KT WE n sc t bd rs left x y k p (.bad [] [] x' y')
 |fail {R:G (G D)} {l':G D} {x' y':D}:je c w J KT n sc t bd left x y k p (.bad R l' x' y')->Ends g9 c w J KT WE n sc t bd rs left x y k p (.bad R l' x' y')
noncomputable def zA(c:a_)(w:dF)(J:aP)(KT:D)(F C:G aA)(fb m:H)(E:mf)(v:aw)(h:aP):Prop:=match E with
 |.good x y=>(∃a,C[3]?=some a/\v=.ref a)/\∃f,fb<=f/\St c (wb c w (aU KT)) J F C (stH f [] (dh m .any) x y) h
 |.bad R left x y=>v=.none/\∃f,fb<=f/\St c (wb c w (aU KT)) J F C (oW f left R x y) h
theorem agY(hp:C<+:ao)(hl:ao.length=C.length):ao=C:=by
 refine bw hp ?_;clear hp;intro t aI;subst aI
 rw [fy] at hl
 have:t=[]:=Jg (by lia)
 rw [this,h_]
noncomputable def RZ(fb m:H)(oc:mf)(u:D)(o:MH):Prop:=match oc with
 |.good x y=>u=.ref 3/\∃f,fb<=f/\o=stH f [] (dh m .any) x y
 |.bad R B x y=>u=.none/\∃f,fb<=f/\o=oW f B R x y
theorem ade(T:Top c (wb c w (aU KT)) K W J mg mb)(Fi:nX c (wb c w (aU KT)) J 277 az E fd dv)(hG:az.body=.While t bd [] wp::rs)(Xk:az.sc=sc)(Xo:tI az [.ref 0,.ref 2,.ref 3,.ref 6]=some gY.vars)
  (R8:∀(x y:D) (bu:Lk),cR y=true->g9 y->Sound (λr:aa Lk=>r=some bu) c (wb c w (tabS KT x y)) J n (run jR WE n))
  (ch:Ends g9 c w J KT WE n sc t bd rs left x y k p oc) (gh:cR x=true) (gi:cR y=true) (hk:fb+k<=f) (hl:left.length+6*k<=390) (hm:m+p<=400) (hb:∀R B x' y',oc=.bad R B x' y'->m+p=0)
  (room:eY (n+1) Y) (S:St c (wb c w (aU KT)) J F C (stH f left (dh m .any) x y) s.heap) (e0:C[0]?=some a0) (e2:C[2]?=some a2) (e3:C[3]?=some a3) (e6:C[6]?=some a6):
  bc c (wb c w (aU KT)) Y [] C s (call (.ref 277) [.ref a0,.ref a2,.ref a3,.ref a6]) (λv ao M=>C<+:ao/\zA c w J KT F ao fb (m+p) oc v M):=by
 intro Q au q
 have dM:C.length=7:=S.len.symm
 have rf:∀{i:H} {ad:aA},C[i]?=some ad->VR c (wb c w (aU KT)) F C s.heap (.ref i) (.ref ad):=λe=>by exact⟨_,e,rfl⟩
 have y0:aW c (wb c w (aU KT)) F C s.heap [.ref 0,.ref 2,.ref 3,.ref 6] [.ref a0,.ref a2,.ref a3,.ref a6]:=.cons (rf e0) (.cons (rf e2) (.cons (rf e3) (.one (rf e6))))
 refine B_ (zP (n:=n) (ag:=Prop) (ae:=λr=>r) (k:=RZ fb (m+p) oc) T Fi room.calls room.deep S y0 Xo (λs1 X C1=>?_) λv ao M tk st pv=>?_)
 .intro Q au q
  rw [hG]
  rw [Xk] at C1 q
  have C1:Ctx c (wb c w (aU KT)) J n (Y.deeper X) (ownOf X++F) C s1 (stH f left (dh m .any) x y) ⟨sc,.none⟩ gY X:=C1
  have last:∀(x' y':D) (fl:ah),cR x'=true->cR y'=true->g9 y'->(∀f wr,v_ WE n sc rs (stH f [] wr x' (.tok 2))=some ⟨fl,.fuel f,[],x',.tok 2,iA wr⟩)->(fl=true->oc=.good x' y')->(fl=false->oc=.bad [] [] x' y')->∀f' M tk,fb<=f'->bh (ownOf X) C s1.heap C M->
    Ctx c (wb c w (aU KT)) J n (Y.deeper X) (ownOf X++F) C {s1 with heap:=M,toks:=tk} (stH f' [] (dh (m+p) .any) x' y') ⟨sc,.none⟩ gY X->bo (bK c w) (Y.deeper X) (iH rs X) Q au {s1 with heap:=M,toks:=tk}:=by
   intro x' y' fl th ti hY cS h1 h2 f' M tk lf st C2
   have C3:=oq (aJ:=tabS KT x' y') (a':=x') (b':=.tok 2) C2 rfl rfl (λ_ _ _=>.nil) (gD _) (by rw [dZ];assumption) (.same (aN.mp th).1) (.eT (aN.mp ti).1 (aN.mp ti).2 rfl)
   rw [dZ] at C3
   have cS:=cS f' (dh (m+p) .any)
   rw [nE,dZ] at cS
   refine ku (R8 x' y' _ ti hY).ex rs C _ _ gY MW C3 cS _ _ λfw dY h3 ey dp p3=>?_
   obtain⟨g,pM,hM,dX,S3,G3,sD⟩:=p3
   have hp:C<+:dY:=dp.pre
   have G3:dm c (wb c w (tabS KT x' y')) (ownOf X++F) dY h3 sc pM.vars X:=G3
   have G4:dm c (wb c w (aU KT)) (ownOf X++F) C h3 sc [] X:=G3.weak G3.own λi m' e=>by cases i<;>exact aB e
   have fc:bh (ownOf X) C s1.heap C h3:=⟨mT _,(st.trans dp).keep,λb E e nn=>⟨((st.trans dp).out b E e nn).1,nn⟩⟩
   have Ly:∀{L:Lk},lH L.fl hM=some L->L=⟨fl,.fuel f',[],x',.tok 2,m+p⟩->St c (wb c w (aU KT)) J (ownOf X++F) C (stH f' [] (dh (m+p) .any) x' y') h3:=by
    intro L e1 e2
    subst e2
    refine xA (s6 e1) λ_ sw=>?_
    have S4:=BD S3 hp dM sw rfl ⟨_,rfl⟩ (λi e=>by dsimp only at e;subst e;cases(aN.mp th).1) (λi e=>by cases e;exact⟨_,rfl⟩) (λ_ _ _=>.nil) (gD _) (by dsimp only;assumption)
    have S5:=BR (aJ:=aU KT) (a':=x') (b':=y') S4 rfl rfl (λ_ _ _=>.nil) (gD _) (by rw [dZ];dsimp only;assumption) (.same (aN.mp th).1) (.fe rfl)
    rw [dZ] at S5
    exact S5
   cases g with
   |next=>exact aB dX
   |ret u=>
    obtain⟨v,rfl,xv⟩:∃v,fw=.ret v/\VR c (wb c w (tabS KT x' y')) (ownOf X++F) dY h3 u v:=sD
    cases u with
    |none=>
     have dX:lH false hM=some ⟨fl,.fuel f',[],x',.tok 2,m+p⟩:=dX
     have e4:=(s6 dX).1
     dsimp only at e4
     subst e4
     have S5:=Ly (L:=⟨false,.fuel f',[],x',.tok 2,m+p⟩) dX rfl
     subst xv
     refine q _ C h3 ey fc ⟨.ret .none,⟨[],[]⟩,_,?_,S5,G4,_,rfl,by rfl⟩
     rw [h2 rfl]
     exact⟨rfl,_,lf,by rw [hb _ _ _ _ (h2 rfl)];rfl⟩
    |ref i=>
     have dX:(match bA i 3 with|true=>lH true hM|false=>.none)=some (⟨fl,.fuel f',[],x',.tok 2,m+p⟩:Lk):=dX
     refine xA (bI dX) λI dX=>?_
     have ei:=dU I
     subst ei
     have e4:=(s6 dX).1
     dsimp only at e4
     subst e4
     have S5:=Ly (L:=⟨true,.fuel f',[],x',.tok 2,m+p⟩) dX rfl
     refine ay xv ?_;clear xv;intro ad e5 aE;subst aE
     rw [ja hp (by lia)] at e5
     refine q _ C h3 ey fc ⟨.ret (.ref 3),⟨[],[]⟩,_,?_,S5,G4,_,rfl,by exact⟨ad,e5,rfl⟩⟩
     rw [h1 rfl]
     exact⟨rfl,_,lf,rfl⟩
    |_=>exact aB dX
  have bad:∀R jl x' y',oc=.bad R jl x' y'->∀f' ao M tk,fb<=f'->bh (ownOf X) C s1.heap ao M->dm c (wb c w (aU KT)) (ownOf X++F) ao M sc [] X->St c (wb c w (aU KT)) J (ownOf X++F) ao (oW f' jl R x' y') M->Q (.ret .none) {s1 with heap:=M,toks:=tk}:=by
   intro R jl x' y' ho f' ao M tk lf st G2 S2
   refine q _ ao M tk st ⟨.ret .none,⟨[],[]⟩,_,?_,S2,G2,_,rfl,by rfl⟩
   rw [ho]
   exact⟨rfl,_,lf,rfl⟩
  refine wpAny_execs_cons (wpAny_While ?_)
  cases ch with
  |good ch th ti hY cS=>
   exact ch _ _ _ X f m s1 _ dM gh gi (by lia) hl hm (λ_ _ _ _ e=>nomatch e) C1 (λx' y' e f' M tk lf st C2=>by cases e;exact last _ _ true th ti hY cS (λ_=>rfl) (λe=>nomatch e) f' M tk (by lia) st C2) (λ_ _ _ _ e=>nomatch e)
  |MY ch th ti hY cS=>
   exact ch _ _ _ X f m s1 _ dM gh gi (by lia) hl hm (λ_ _ _ _ e=>nomatch e) C1 (λx' y' e f' M tk lf st C2=>by cases e;exact last _ _ false th ti hY cS (λe=>nomatch e) (λ_=>rfl) f' M tk (by lia) st C2) (λ_ _ _ _ e=>nomatch e)
  |fail ch=>
   exact ch _ _ _ X f m s1 _ dM gh gi (by lia) hl hm hb C1 (λx' y' e=>nomatch e) (λR jl x' y' e f' ao M tk lf st G2 S2=>by cases e;exact bad _ _ _ _ rfl f' ao M tk (by lia) st G2 S2)
 .obtain⟨u,bM,my,S1,x1⟩:=pv
  refine q v _ M tk st ⟨st.pre,?_⟩
  cases oc with
  |bad R B x y=>
   obtain⟨rfl,f1,lf,rfl⟩:=my
   exact⟨x1,_,lf,S1⟩
  |good x y=>
   obtain⟨rfl,f1,lf,rfl⟩:=my
   refine ay x1 ?_;clear x1;intro ad e5 aE;subst aE
   exact⟨⟨ad,e5,rfl⟩,_,lf,S1⟩
end
section
variable{c:a_}{w:dF}{Y:bG}{F C ao:G aA}{s:aT}{J h M:aP}{o br:MH}{K:b8}{W WF:bQ}{mg mb:ar->aa aw}{n:H}{X:cK}{aL aQ aJ fL:H->aa D}
 {sc:G (ar×dc)} {t:aX} {bd rs:G en} {f:H} {left wr:G D} {a b a' b' KT:D}
noncomputable def cE(aQ aJ:H->aa D)(B l':G D):Prop:=∀(o:MH) (β:H->aa H) (FZ:H->Prop),cG aQ aJ o β FZ B l'
theorem Vz(C0:∀bu:Lk,Sound (λr:aa Lk=>r=some bu) c (wb c w fL) J n (run jR WF n))(t0:fL 0=some KT)(t1:fL 1=some x)(t2:fL 2=some y)
  (cS:∀f wr,turn WF n sc t bd (stH (cX f) [g'] wr (.tok 1) (.tok 2))=some ⟨true,.fuel f,lX,.tok 1,.tok 2,iA wr⟩) (cg:cE (aU KT) fL [g] [g']) (cs:cE fL fL lX lX) (cb:cE fL (aU KT) lX subs) (Az:subs.length<=6)
  (L:je c w J KT n sc t bd subs x y k p E):je c w J KT n sc t bd [g] x y (k+1) p E:=by
 intro Y F C X f m s R' dM gh gi hk hl hm hb aq hd hf
 refine bw (CJ (wI (nY (ug k) hk))) λf aI=>?_;subst aI
 have kx:=aN.mp gh
 have ky:=aN.mp gi
 have Ax:lX.length<=6:=by rw [<-(cb ⟨.nil,0⟩ (λ_=>.none) (λ_=>dP)).length];exact Az
 have ml:lX.length<=400:=dQ Ax (by decide)
 have mm:m<=400:=dQ (ig ..) hm
 have C':=oq (aJ:=fL) aq rfl t0 cg (n4 (gD 399)) (by rw [dZ];exact mm) (.eT kx.1 kx.2 t1) (.eT ky.1 ky.2 t2)
 rw [dZ] at C'
 have cS:=cS f (dh m .any)
 rw [nE,dZ] at cS
 refine BI (C0 _) C' dM cS rfl ⟨_,t0⟩ (λi e=>by cases e;exact⟨_,t1⟩) (λi e=>by cases e;exact⟨_,t2⟩) cs ml mm (λ_ M tk st C3=>?_) (λe=>nomatch e)
 have C4:=oq (aJ:=aU KT) C3 t0 rfl cb ml (by rw [dZ];exact mm) (.fe t1) (.fe t2)
 rw [dZ] at C4
 refine L Y F C X f m {s with heap:=M,toks:=tk} R' dM gh gi (Jw hk) (F_ (r:=0) Az hl) hm hb C4 (λx' y' e f' h2 bS lf bp C5=>?_) (λR jl x' y' e f' bf h2 bS lf bp G5 S5=>?_)
 .exact hd x' y' e f' h2 bS (n4 lf) (st.trans bp) C5
 .exact hf R jl x' y' e f' bf h2 bS (n4 lf) (st.trans bp) G5 S5
theorem Vy(C0:∀bu:Lk,Sound (λr:aa Lk=>r=some bu) c (wb c w fL) J n (run jR WF n))(t0:fL 0=some KT)(t1:fL 1=some x)(t2:fL 2=some y)
  (cS:∀f wr,turn WF n sc t bd (stH (cX f) [g'] wr (.tok 1) (.tok 2))=some ⟨false,.fuel f,lX,.tok 1,.tok 2,iA wr⟩) (cg:cE (aU KT) fL [g] [g']) (cs:cE fL fL lX lX) (cb:cE fL (aU KT) lX subs) (Az:subs.length<=6):
  je c w J KT n sc t bd [g] x y 1 0 (.bad [] subs x y):=by
 intro Y F C X f m s R' dM gh gi hk hl hm hb aq hd hf
 refine bw (CJ (wI hk)) λf aI=>?_;subst aI
 have kx:=aN.mp gh
 have ky:=aN.mp gi
 have Ax:lX.length<=6:=by rw [<-(cb ⟨.nil,0⟩ (λ_=>.none) (λ_=>dP)).length];exact Az
 have ml:lX.length<=400:=dQ Ax (by decide)
 have mm:m<=400:=dQ (ig ..) hm
 have C':=oq (aJ:=fL) aq rfl t0 cg (n4 (gD 399)) (by rw [dZ];exact mm) (.eT kx.1 kx.2 t1) (.eT ky.1 ky.2 t2)
 rw [dZ] at C'
 have cS:=cS f (dh m .any)
 rw [nE,dZ] at cS
 refine BI (C0 _) C' dM cS rfl ⟨_,t0⟩ (λi e=>by cases e;exact⟨_,t1⟩) (λi e=>by cases e;exact⟨_,t2⟩) cs ml mm (λe=>nomatch e) (λ_ M tk st G3 S3=>?_)
 have S4:=BR (aJ:=aU KT) S3 t0 rfl cb ml (by rw [dZ];exact mm) (.fe t1) (.fe t2)
 rw [dZ,show m=0 from hb _ _ _ _ rfl] at S4
 exact hf _ _ _ _ rfl f C M tk (fG _) st (G3.bare G3.own) S4
end
section
variable{c:a_}{w:dF}{Y:bG}{F C ao F2 bf:G aA}{s:aT}{J h M:aP}{o br dz q6:MH}{K:b8}{W WE:bQ}{mg mb:ar->aa aw}{n:H}{X:cK}{aL aQ aJ:H->aa D}
theorem St.frame(S:St c (wb c w aL) J F C o h)(st:bh [] bf h dY M)(S2:St c (wb c w aJ) J F2 dY dz M)(e3:dY=bf++e)(h2:∀a∈bf,a∈C)(hF:∀a∈F,a∈F2)(Mn:∀a∈C,a∉bf->a∈F2)(len:q6.n=o.n+e.length)
  (ji:∀j i a,β j=some i->dY[j]?=some a->(C++e)[i]?=some a)
  (pl:∀i a,(C++e)[i]?=some a->(C[i]?=some a/\a∉bf/\q6.t.get i=o.t.get i)\/(∃j E o2,dY[j]?=some a/\dz.t.get j=some E/\q6.t.get i=some o2/\gR aJ aL dz β (λ_=>dP) E o2)):bh [] C h (C++e) M/\St c (wb c w aL) J F (C++e) q6 M:=by
 have keep:∀b E,h.get? b=some E->b∉bf->M.get? b=some E:=λb E e n=>st.keep b E e n λq=>nomatch q
 have AN:∀a∈e,a∈dY:=λa ha=>by rw [e3];exact fC _ ha
 have new:∀a∈e,a∉C:=λa ha q=>by
  by_cases z:a∈bf
  .have nd:=S2.apart
   rw [e3] at nd
   exact(wD.mp nd).2.2 a z a ha rfl
  .exact(S2.cI a (Mn a q z)).2.1 (AN a ha)
 have Gp:∀a E,h.get? a=some E->a∉e:=λa E ho q=>by
  by_cases z:a∈bf
  .exact new a q (h2 a z)
  .exact(st.out a E ho z).2 (AN a q)
 have Gl:e.Nodup:=by
  have nd:=S2.apart
  rw [e3] at nd
  exact(wD.mp nd).2.1
 refine⟨⟨wF ..,λb E e n _=>keep b E e λq=>n (h2 b q),λb E ho n=>⟨⟨E,keep b E ho λq=>n (h2 b q)⟩,λq=>(dI.mp q).elim n (Gp b E ho)⟩⟩,⟨λb E e=>⟨(S2.keep b E e).1,λq=>(dI.mp q).elim (S.keep b E e).2 λz=>(S2.keep b E e).2 (AN b z)⟩,by rw [len,S.len,fy],?_,λa ha=>?_,λi a e=>?_⟩⟩
 .rw [wD]
  exact⟨S.apart,Gl,λa ha b hb q=>new b hb (q▸ha)⟩
 .obtain⟨⟨E,ho⟩,q2,q3⟩:=S.cI a ha
  exact⟨⟨E,keep a E ho λq=>q2 (h2 a q)⟩,λq=>(dI.mp q).elim q2 (Gp a E ho),q3⟩
 .rcases pl i a e with⟨q0,q1,q2⟩|⟨j,E,o2,e1,e2,e4,I⟩
  .refine ay (S.at_ i a q0) λE ho x=>?_
   refine bw x.some λob AF=>?_
   exact⟨E,q2.trans ho,tj (λb ob e sf=>⟨keep b ob e λq=>sf.2 (h2 b q),sf.1,λq=>(dI.mp q).elim sf.2 (Gp b ob e)⟩) (λi b e=>by rw [iD (eM.mp e).1];exact e) ((keep a ob AF q1).trans AF.symm) x⟩
  .refine⟨o2,e4,I.ok S2 ji (λb ob _ sf=>⟨λq=>sf.1 (hF b q),λq=>?_⟩) (λ_ _ q=>q.elim) (S2.ref e1 e2)⟩
   refine dC (dI.mp q) (λq=>?_) λq=>?_
   .by_cases z:b∈bf
    .exact sf.2 (by rw [e3];exact iR _ z)
    .exact sf.1 (Mn b q z)
   .exact sf.2 (AN b q)
structure Raw(o:MH)(args:G D)(s sd B e dd r u:H):Prop where
 args:args=[.ref s,.ref B,.ref e,.ref u]
 p0:o.t.get s=some (.inst 338 sd)
 p1:o.t.get sd=some (.dict [(.str nD,.tok 0),(.str nB,.int 4000)])
 p2:∃b,o.t.get B=some (.list b [.tup [.str ⟨⟨[115,117,98]⟩⟩,.tok 10,.tok 11]])
 p3:o.t.get e=some (.inst 200 dd)
 p4:o.t.get dd=some (.dict [(.str eH,.ref r),(.str eG,.int 2)])
 p5:o.t.get r=some (.dict [(.str eE,.tok 1),(.str eD,.tok 2)])
 p6:∃b,o.t.get u=some (.list b [])
 nd:[s,sd,B,e,dd,r,u].Nodup
 lt:∀i∈[s,sd,B,e,dd,r,u],i<o.n
theorem lF(e:gO j v=true):v=.tok j:=by
 cases v with
 |tok i=>rw [dU (e:bA i j=true)]
 |_=>exact bz e
theorem b7{α:Type}{f:α->ah}{B:G α}(e:allB f B=true):∀q∈B,f q=true:=by
 induction B with
 |nil=>exact λ_ h=>nomatch h
 |cons a B O=>exact λq hq=>(bY.mp hq).elim (λz=>z▸bx e) (O (bL e) q)
theorem MD(e:AU m=true):m=.none:=by
 cases m with
 |none=>rfl
 |_=>exact bz e
theorem X3(e:Fl b m=true):m=.bool b:=by
 cases m with
 |bool I=>cases b<;>cases I<;>first|rfl|exact bz e
 |_=>exact bz e
theorem X5(e:Fp i m=true):m=.fn i:=by
 cases m with
 |fn j=>rw [dU (e:bA j i=true)]
 |_=>exact bz e
theorem aa6(e:yp f m=true):∃B,m=.tup B/\f B=true:=by
 cases m with
 |tup B=>exact⟨B,rfl,e⟩
 |_=>exact bz e
theorem ac2(B:G D):cT B=@D.rec_1 (λ_=>D->ah) (λ_=>G D->ah) AU Fl oH xV (λ_ f=>yp f) kM Fp (λ_ _=>false) (λ_ _=>false) (λ_ _ _ _=>false) (λ_=>false) gO Hs (λ_ _ f g=>By f g) B:=by
 induction B with
 |nil=>rfl
 |cons a B O=>exact cq (By (eW a)) O
theorem ac5(B:G D):eW (.tup B)=yp (cT B):=cq yp (ac2 B).symm
theorem Ou(h:∀a∈B,∀b,eW a b=true->a=b):∀{m:G D},cT B m=true->B=m:=by
 induction B with
 |nil=>
  intro m e
  cases m with
  |nil=>rfl
  |cons=>exact bz e
 |cons a B O=>
  intro m e
  cases m with
  |nil=>exact bz e
  |cons b m=>rw [h a (.head _) b (bx e),O (λa ha=>h a (.tail _ ha)) (bL e)]
theorem iK:eW a b=true->a=b:=
 D.ind (P:=λa=>∀b,eW a b=true->a=b) (λ_ e=>(MD e).symm) (λ_ _ e=>(X3 e).symm) (λ_ _ e=>(sS e).symm) (λ_ _ e=>(FE e).symm)
  (λB O b e=>by
   rw [ac5] at e
   refine ay (aa6 e) λm aI e=>?_;rw [aI]
   rw [Ou O e])
  (λ_ _ e=>(sR e).symm) (λ_ _ e=>(X5 e).symm) (λ_ _ e=>bz e) (λ_ _ e=>bz e) (λ_ _ _ _ e=>bz e) (λ_ e=>bz e) (λ_ _ e=>(lF e).symm) a b
theorem eu(e:cT B m=true):B=m:=Ou (λ_ _ _=>iK) e
theorem aco{args:G D}{is:G H}(e:Og args o=some is):∃s sd B f dd r u,is=[s,sd,B,f,dd,r,u]/\Raw o args s sd B f dd r u:=by
 refine xA (jA e) λw8 aI=>?_;subst aI
 have w7:=bx w8
 have w6:=bx w7
 have w4:=bx w6
 have w3:=bx w4
 have pE:=bx w3
 have nk:=bx pE
 have nj:=bx nk
 have nh:=bx nj
 have c9:=bx nh
 have c8:=bx c9
 have c7:=bx c8
 have c6:=bx c7
 have c5:=bx c6
 have c4:=bx c5
 have c3:=bx c4
 have c2:=bx c3
 have l1:∃b,_:=sX (bL pE)
 have l2:∃b,_:=sX (bL w4)
 rw [eu (bL w3)] at l1
 rw [eu (bL w6)] at l2
 exact⟨_,_,_,_,_,_,_,rfl,eu (bx c2),u6 (bL c2),ou (bL c4) (xT (bL c5)) (sS (bL c6)),l1,u6 (bL c3),ou (bL c7) (sR (bL c8)) (sS (bL c9)),ou (bL nh) (lF (bL nj)) (lF (bL nk)),l2,Gm (bL w7),λi hi=>dw (b7 (bL w8) i hi)⟩
end
section
variable{c:a_}{w:dF}{Y:bG}{F C ao F2 bf:G aA}{s:aT}{J h M:aP}{o br dz q6:MH}{K:b8}{W WE:bQ}{mg mb:ar->aa aw}{n:H}{X:cK}{aL aQ aJ:H->aa D}
theorem picked{is:G H}(nd:C.Nodup)(ni:is.Nodup)(sL:∀(j:H) (a:aA),bf[j]?=some a->∃i:H,is[j]?=some i/\C[i]?=some a):bf.Nodup:=by
 rw [List.Nodup,Cz]
 intro i j hi hj uR e
 refine ay (sL i _ (cV hi)) λi' e1 e2=>?_
 refine ay (sL j _ (cV hj)) λj' e3 e4=>?_
 rw [e] at e2
 refine bw (eM.mp e2) λl1 l2=>?_
 refine bw (eM.mp e4) λl3 l4=>?_
 have q:=(rK (h₀:=l1) (h₁:=l3) nd).mp (l2.trans l4.symm)
 subst q
 refine bw (eM.mp e1) λl5 l6=>?_
 refine bw (eM.mp e3) λl7 l8=>?_
 have:=(rK (h₀:=l5) (h₁:=l7) ni).mp (l6.trans l8.symm)
 lia
theorem qe(nd:C.Nodup){i j:H}(e1:C[i]?=some a)(e2:C[j]?=some a):i=j:=by
 refine bw (eM.mp e1) λl1 l2=>?_
 refine bw (eM.mp e2) λl3 l4=>?_
 exact(rK (h₀:=l1) (h₁:=l3) nd).mp (l2.trans l4.symm)
noncomputable def tp(is:G H)(n j:H):aa H:=if j<7 then is[j]? else some (n+(j-7))
theorem BY(n i:H):n+(i+3)=n+3+i:=(ph n i 3).symm.trans (Ju n i 3)
theorem XR:∀{t t':MT} {n:H},AQ B t n=some t'->(∀i,i<n\/n+B.length<=i->t'.get i=t.get i)/\∀d,d<B.length->t'.get (n+d)=B[d]?:=by
 induction B with
 |nil=>exact λe=>aM e▸⟨λ_ _=>rfl,λd h=>bP h (zq d)⟩
 |cons E B O=>
  intro t t' n e
  have e':@bN (λ_=>aa MT) .none (AQ B (t.ins n E) (cX n)) (cJ ((t.ins n E).get n))=some t':=e
  cases I:cJ ((t.ins n E).get n) with
  |false=>rw [I] at e';exact aB e'
  |true=>
   rw [I] at e'
   refine xA (O e') λh1 h2=>?_
   have g:=MT.get_ins E t n (by cases z:(t.ins n E).get n with
    |none=>rw [z] at I;exact bz I
    |some _=>rfl)
   refine⟨λi hi=>?_,λd=>?_⟩
   .have hi:i<n\/n+B.length+1<=i:=hi
    rw [h1 i (hi.imp Jz (λh=>by rw [Nat.succ_add];exact h)),g,bk (λz=>hi.elim (λh=>rU h z) λh=>wI (nY (rT (ig ..)) h) z)]
   .cases d with
    |zero=>exact λ_=>(h1 n (.inl (Rg _))).trans ((g n).trans (bT rfl))
    |succ d=>exact λhd=>by rw [<-Rv];exact h2 d (Jy hd)
theorem UB:(∀e∈R,(∀m∈e,bC m=true)/\e.length<=400)->∀{n n':H},(∀i,i<3*R.length->β (n+i)=some (n'+i))->∀(d:H) (E:cL),(eL R n)[d]?=some E->∃o2,(eL R n')[d]?=some o2/\gR aQ aJ o β FZ E o2:=by
 induction R with
 |nil=>exact λ_ _ _ _ _ _ e=>nomatch e
 |cons g R O=>
  intro pe n n' hb d
  refine match d with
  |0=>λE e=>aM e▸⟨_,rfl,.list (iw (pe g (.head _)).1) (pe g (.head _)).2 (by decide)⟩
  |1=>λE e=>aM e▸⟨_,rfl,.inst (hb 2 (ud 3 (3*R.length)))⟩
  |2=>λE e=>aM e▸⟨_,rfl,.dict (dD:=[(.str eH,.any),(.str eG,.any)]) rfl (.cons .any (.cons .any .nil))⟩
  |d+3=>O (λe he=>pe e (.tail _ he)) (n:=n+3) (n':=n'+3) (λi hi=>(BY n i▸BY n' i▸hb (i+3) (Ra hi 3))) d
theorem afj(cb:cG aQ aJ o β FZ b b):∀{n n':H},(∀i,i<3*R.length->β (n+i)=some (n'+i))->cG aQ aJ o β FZ (wE R b n) (wE R b n'):=by
 induction R with
 |nil=>exact λ_=>cb
 |cons g R O=>
  intro n n' hb
  exact .cons (.tup (.cons (.ref (hb 0 (Nat.zero_lt_of_lt (ud 3 (3*R.length))))) (.cons (.ref (hb 1 (dQ (by decide) (ud 3 (3*R.length))))) .nil))) (O (n:=n+3) (n':=n'+3) λi hi=>(BY n i▸BY n' i▸hb (i+3) (Ra hi 3)))
theorem PO(b:G D):∀(R:G (G D)) (n:H),(wE R b n).length=R.length+b.length
 |[],_=>(uh _).symm
 |g::R,n=>by show(wE R b (n+3)).length+1=R.length+1+b.length;rw [PO b R];lia
noncomputable def i_(C:G aA)(is:G H):G aA:=is.filterMap λi=>C[i]?
theorem rg:(∀i∈is,i<C.length)->∀{j i:H} {a:aA},is[j]?=some i->C[i]?=some a->(i_ C is)[j]?=some a:=by
 induction is with
 |nil=>exact λ_ _ _ _ e=>nomatch e
 |cons b is O=>
  intro h j i a e e2
  obtain⟨x,hx⟩:∃x,C[b]?=some x:=⟨_,cV (h b (.head _))⟩
  have hc:i_ C (b::is)=x::i_ C is:=by unfold i_;rw [zf,hx]
  rw [hc]
  cases j with
  |zero=>
   rw [<-aM (e:some b=some i),hx] at e2
   exact e2
  |succ j=>exact O (λi hi=>h i (.tail _ hi)) (j:=j) e e2
theorem GZ:(∀i∈is,i<C.length)->(i_ C is).length=is.length:=by
 induction is with
 |nil=>exact λ_=>rfl
 |cons b is O=>
  intro h
  unfold i_
  rw [zf,cV (h b (.head _))]
  exact cq (· +1) (O λi hi=>h i (.tail _ hi))
theorem Bp(h:∀i∈is,i<C.length){j:H}(e:(i_ C is)[j]?=some a):∃i,is[j]?=some i/\C[i]?=some a:=by
 have hj:j<is.length:=by have:=(eM.mp e).1;rwa [GZ h] at this
 have ei:is[j]?=some is[j]:=cV hj
 have er:C[is[j]]?=some (C[is[j]]'(h _ (zg hj))):=cV _
 have:=rg h ei er
 rw [e] at this
 exact⟨_,ei,er.trans this.symm⟩
theorem adb:∀{os:G cL} {t:MT},is.Nodup->is.length=os.length->(∀i∈is,∃E,t.get i=some E)->(∀{j i:H},is[j]?=some i->(BH is os t).get i=os[j]?)/\∀i,i∉is->(BH is os t).get i=t.get i:=by
 induction is with
 |nil=>exact λ_ _ _=>⟨λe=>(nomatch e),λ_ _=>rfl⟩
 |cons a is O=>
  intro os t nd h ht
  cases os with
  |nil=>exact bP h (rV _)
  |cons E os=>
   refine xA (ic.mp nd) λn1 n2=>?_
   refine bw (ht a (.head _)) λoa ha=>?_
   have g:∀i,(t.set a E).get i=if i=a then some E else t.get i:=λi=>by rw [MT.get_set,ha];rfl
   obtain⟨h1,h2⟩:=O (t:=t.set a E) n2 (lu h) λi hi=>by
    rw [g]
    by_cases q:i=a
    .exact⟨E,bT q⟩
    .rw [bk q];exact ht i (.tail _ hi)
   refine⟨λ{j i} e=>?_,λi hi=>(h2 i λq=>hi (.tail _ q)).trans ((g i).trans (bk λ(q:i=a)=>hi (q▸.head _)))⟩
   cases j with
   |zero=>exact aM (e:some a=some i)▸(h2 a n1).trans ((g a).trans (bT rfl))
   |succ j=>exact h1 (j:=j) e
theorem J5{α:Type}{P:H->α->Prop}{a0 a1 a2 a3 a4 a5 a6:α}{i:α}(e:[a0,a1,a2,a3,a4,a5,a6][j]?=some i)(h0:P 0 a0)(h1:P 1 a1)(h2:P 2 a2)(h3:P 3 a3)(h4:P 4 a4)(h5:P 5 a5)(h6:P 6 a6):P j i:=by
 rcases j with _|_|_|_|_|_|_|j<;>first|exact aB e|(rw [<-aM e];assumption)
theorem acr{KT x y one body:D}{args:G D}(t0:aL 0=some KT)(t1:aL 1=some x)(t2:aL 2=some y)(HT:aL 10=some one)(HU:aL 11=some body)(bu:Raw o args kL sd il ie dd ir iu){j i:H}(e:[kL,sd,il,ie,dd,ir,iu][j]?=some i):
  ∃E o2,o.t.get i=some E/\(nR 4000 [.tup [.str ⟨⟨[115,117,98]⟩⟩,one,body]] [] x y)[j]?=some o2/\gR aL (aU KT) o (λi=>lQ i [kL,sd,il,ie,dd,ir,iu]) (λ_=>dP) E o2:=by
 refine bw bu.p2 λb2 p2=>?_
 refine bw bu.p6 λb6 p6=>?_
 have ps:∀{j i:H},[kL,sd,il,ie,dd,ir,iu][j]?=some i->lQ i [kL,sd,il,ie,dd,ir,iu]=some j:=λe=>Bt bu.nd e
 exact J5 (P:=λj i=>∃E o2,o.t.get i=some E/\(nR 4000 [.tup [.str ⟨⟨[115,117,98]⟩⟩,one,body]] [] x y)[j]?=some o2/\gR aL (aU KT) o (λi=>lQ i [kL,sd,il,ie,dd,ir,iu]) (λ_=>dP) E o2) e
  ⟨_,_,bu.p0,rfl,.inst (ps (j:=1) rfl)⟩ ⟨_,_,bu.p1,rfl,.dict rfl (.cons (.gZ t0 rfl) (.cons (.fuel (I_ _)) .nil))⟩
  ⟨_,_,p2,rfl,.list (.cons (.tup (.cons (.same rfl) (.cons (.fe HT) (.cons (.fe HU) .nil)))) .nil) (by simp) (by decide)⟩ ⟨_,_,bu.p3,rfl,.inst (ps (j:=4) rfl)⟩
  ⟨_,_,bu.p4,rfl,.dict rfl (.cons (.ref (ps (j:=5) rfl)) (.cons (.same rfl) .nil))⟩ ⟨_,_,bu.p5,rfl,.dict rfl (.cons (.fe t1) (.cons (.fe t2) .nil))⟩ ⟨_,_,p6,rfl,.list .nil (by decide) (by decide)⟩
theorem aax{KT x' y':D}{R:G (G D)}{p f:H}(hf:3900<=f)(t0:aL 0=some KT)(hx:aL 3=some x')(HV:aL 4=some y')(ox:cR x'=true)(oy:cR y'=true)(lp:p<=390)(ll:LB.length<=400)(qf:∀m∈LB,bC m=true)(le:R.length<=2)
  (b1:β 1=some sd) (b4:β 4=some dd) (b5:β 5=some r) (hb:∀i,i<3*R.length->β (7+i)=some (n+i)) {j:H} (e:(nR f LB (wE R (dh p .any) 7) x' y')[j]?=some E):
  ∃o2,(Gs R LB p n sd dd r)[j]?=some o2/\gR (aU KT) aL lJ β (λ_=>dP) E o2:=by
 have kx:=aN.mp ox
 have ky:=aN.mp oy
 have ca:cG (aU KT) aL lJ β (λ_=>dP) (dh p .any) (dh p .any):=by
  have:=xd (o:=lJ) (aQ:=aU KT) (aJ:=aL) (β:=β) (FZ:=λ_=>dP) (B:=dh p .any)
  rwa [dZ] at this
 exact J5 (P:=λj E=>∃o2,(Gs R LB p n sd dd r)[j]?=some o2/\gR (aU KT) aL lJ β (λ_=>dP) E o2) e
  ⟨_,rfl,.inst b1⟩ ⟨_,rfl,.dict (dD:=[(.str nD,.tok 0),(.str nB,.fuel 3900)]) rfl (.cons (.gZ rfl t0) (.cons (.less hf) .nil))⟩ ⟨_,rfl,.list (r':=LB) (b':=400) (iw qf) ll (by decide)⟩ ⟨_,rfl,.inst b4⟩
  ⟨_,rfl,.dict (dD:=[(.str eH,.ref r),(.str eG,.int 2)]) rfl (.cons (.ref b5) (.cons (.same rfl) .nil))⟩ ⟨_,rfl,.dict (dD:=[(.str eE,.tok 3),(.str eD,.tok 4)]) rfl (.cons (.eT kx.1 kx.2 hx) (.cons (.eT ky.1 ky.2 HV) .nil))⟩
  ⟨_,rfl,.list (r':=wE R (dh p .any) n) (b':=400) (afj ca hb) (by rw [PO,dZ];exact dQ (CE le lp) (by decide)) (by decide)⟩
theorem others(S:St c (wb c w aL) J F C o s.heap):∃F2:G aA,(∀a,a∈F2↔a∈F\/(a∈C/\a∉i_ C is))/\∀a∈F2,(∃E,s.heap.get? a=some E)/\a∉i_ C is/\J.get? a=none:=by
 have sub:∀a∈i_ C is,a∈C:=λa ha=>by
  refine ay (Jq.mp ha) λi _ e=>?_
  exact dy e
 refine⟨F++C.filter (λa=>!((i_ C is).contains a)),λa=>?_,λa ha=>?_⟩
 .rw [dI,t7]
  simp
 .refine dC (dI.mp ha) (λq=>?_) λq=>?_
  .refine cf (S.cI a q) λz1 z2 z3=>?_
   exact⟨z1,λz=>z2 (sub a z),z3⟩
  .refine xA (t7.mp q) λq1 q2=>?_
   obtain⟨i,hi,e⟩:=iE q1
   refine ay (S.at_ i a (by rw [cV hi,e])) λE _ x=>?_
   refine⟨x.some,by simpa using q2,?_⟩
   cases z:J.get? a with
   |none=>rfl
   |some E=>exact bP q1 (S.keep a E z).2
theorem SF{is:G H}{h3:aP}(S:St c (wb c w aL) J F C o s.heap)(gS:∀i∈is,i<C.length)(nd:is.Nodup)(l7:is.length=7)(ln:NL.length=7)
  (dG:∀a,a∈F2↔a∈F\/(a∈C/\a∉i_ C is)) (dp:bh [] (i_ C is) s.heap dY h3) (S3:St c (wb c w (aU KT)) J F2 dY lJ h3) (eA:i_ C is++ee=dY) (ET:AQ (eL R o.n) (BH is NL o.t) o.n=some tN) (pe:∀e∈R,(∀m∈e,bC m=true)/\e.length<=400)
  (hn:lJ.n=7+3*R.length) (hg:∀j,j<7+3*R.length->lJ.t.get j=(L++eL R 7)[j]?) (lL:L.length=7) (cv:∀{j:H} {E:cL},L[j]?=some E->∃o2,NL[j]?=some o2/\gR (aU KT) aL lJ (tp is o.n) (λ_=>dP) E o2):
  bh [] C s.heap (C++ee) h3/\St c (wb c w aL) J F (C++ee) ⟨tN,o.n+3*R.length⟩ h3:=by
 have lA:=GZ gS
 rw [l7] at lA
 have MZ:ee.length=3*R.length:=by have:=S3.len;rw [hn,<-eA,fy,lA] at this;exact(Nat.add_left_cancel this).symm
 have vq:o.n=C.length:=S.len
 refine xA (XR ET) λi1 i2=>?_
 rw [D7] at i1 i2
 obtain⟨g1,g2⟩:=adb (os:=NL) (t:=o.t) nd (l7.trans ln.symm) λi hi=>by
  refine ay (S.at_ i _ (cV (gS i hi))) λE ho _=>?_
  exact⟨E,ho⟩
 have XE:∀i,i<3*R.length->tp is o.n (7+i)=some (o.n+i):=λi _=>by
  unfold tp
  rw [bk (g7.mpr (ig 7 i)),jO]
 refine S.frame dp S3 eA.symm (λa ha=>by obtain⟨i,_,e⟩:=Jq.mp ha;exact dy e) (λa ha=>(dG a).mpr (.inl ha)) (λa ha hn=>(dG a).mpr (.inr ⟨ha,hn⟩)) (by rw [MZ]) (β:=tp is o.n) (λj i a eb ej=>?_) (λi a ei=>?_)
 .unfold tp at eb
  rw [<-eA] at ej
  by_cases hj:j<7
  .rw [bT hj] at eb
   rw [iD (lA.symm▸hj)] at ej
   refine ay (Bp gS ej) λi' q1 q2=>?_
   rw [<-aM (eb.symm.trans q1)] at q2
   rw [iD (eM.mp q2).1]
   exact q2
  .rw [bk hj] at eb
   rw [<-aM eb]
   rw [mS (lA.symm▸g7.mp hj),lA] at ej
   rw [mS (vq▸ig _ _),vq,jO]
   exact ej
 .by_cases hi:i<o.n
  case neg=>
   rw [mS (vq▸g7.mp hi)] at ei
   have hd:i-C.length<3*R.length:=by rw [<-MZ];exact(eM.mp ei).1
   have ed:(eL R 7)[i-C.length]?=some ((eL R 7)[i-C.length]'(by rw [D7];exact hd)):=cV _
   refine ay (UB (aQ:=aU KT) (aJ:=aL) (o:=lJ) (FZ:=λ_=>dP) pe (n:=7) (n':=o.n) XE _ _ ed) λo2 q1 q2=>?_
   refine .inr ⟨7+(i-C.length),_,o2,?_,?_,?_,q2⟩
   .rw [<-eA,mS (lA.symm▸ig _ _),lA,jO];exact ei
   .rw [hg _ (Jt hd 7),mS (lL.symm▸ig _ _),lL,jO];exact ed
   .have:=i2 _ hd
    rw [show o.n+(i-C.length)=i by rw [vq];exact wG (vq▸g7.mp hi)] at this
    exact this.trans q1
  have iN:=i1 i (.inl hi)
  rw [iD (vq▸hi)] at ei
  by_cases m:i∈is
  .obtain⟨j,hj,ej⟩:=iE m
   have ej:is[j]?=some i:=by rw [cV hj,ej]
   have hj:j<7:=l7▸hj
   refine ay (cv (cV (lL▸hj:j<L.length))) λo2 q1 q2=>?_
   exact .inr ⟨j,_,o2,by rw [<-eA,iD (lA.symm▸hj)];exact rg gS ej ei,by rw [hg j (nY hj (ig ..)),iD (lL.symm▸hj)];exact cV _,iN.trans ((g1 ej).trans q1),q2⟩
  .refine .inl ⟨ei,λq=>?_,iN.trans (g2 i m)⟩
   obtain⟨j,hj,ej⟩:=iE q
   refine ay (Bp gS (by rw [cV hj,ej])) λi' q1 q2=>?_
   exact m (qe S.apart ei q2▸dy q1)
theorem abi{KT x y x' y' one body:D}{LB:G D}(t0:aL 0=some KT)(t1:aL 1=some x)(t2:aL 2=some y)(hx:aL 3=some x')(HV:aL 4=some y')(HT:aL 10=some one)(HU:aL 11=some body)(ox:cR x'=true)(oy:cR y'=true)(lp:p<=390)
  (uV:(res=true/\oc=.good x' y'/\LB=[]/\R=[])\/(res=false/\oc=.bad R LB x' y'/\p=0)) (ll:LB.length<=400) (qf:∀m∈LB,bC m=true) (pe:∀e∈R,(∀m∈e,bC m=true)/\e.length<=400) (le:R.length<=2)
  (Sc:∀(Y:bG) (F C:G aA) (s:aT) (a0 a2 a3 a6:aA),eY lv Y->St c (wb c w (aU KT)) J F C (stH 4000 [.tup [.str ⟨⟨[115,117,98]⟩⟩,one,body]] (dh 0 .any) x y) s.heap->C[0]?=some a0->C[2]?=some a2->C[3]?=some a3->C[6]?=some a6->
   bc c (wb c w (aU KT)) Y [] C s (call (.ref 277) [.ref a0,.ref a2,.ref a3,.ref a6]) (λv ao M=>C<+:ao/\zA c w J KT F ao 3900 p oc v M))
  {a:H} (e:N5 lv res R LB p a args o=some q):nV c (wb c w aL) J q.1 a args o q.2.1 q.2.2:=by
 refine ay (fp e) λ_ ha e=>?_
 rw [dU (jA ha).1]
 refine ay (fp e) λis hr e=>?_
 refine gK (aco hr) λkL sd bB=>gK bB λil ie dA=>dO dA λdd ir iu Hq bu=>?_;subst Hq
 refine ay (fp e) λq' he e=>?_
 refine ay (fp (he:eQ _ _=_)) λtN ET he=>?_
 rw [nE] at he
 have he:=aM he
 subst he
 have e:=aM e
 rw [<-e]
 intro Y F C s V room S y0
 dsimp only
 rw [bu.args] at y0
 refine dR.el y0.cj λv0 r0 aE y1 z0=>?_;rw [aE]
 refine dR.el z0.cj λv2 r1 aE y2 z1=>?_;rw [aE]
 refine dR.el z1.cj λv3 r2 aE y3 z2=>?_;rw [aE]
 refine dR.el z2.cj λv6 r3 aE y6 z3=>?_;rw [aE]
 rw [z3.dW]
 refine ay y1 ?_;clear y1;intro a0 e0 aE;obtain rfl:=aE.symm
 refine ay y2 ?_;clear y2;intro a2 e2 aE;obtain rfl:=aE.symm
 refine ay y3 ?_;clear y3;intro a3 e3 aE;obtain rfl:=aE.symm
 refine ay y6 ?_;clear y6;intro a6 e6 aE;subst aE
 have gS:∀i∈[kL,sd,il,ie,dd,ir,iu],i<C.length:=λi hi=>S.len▸bu.lt i hi
 refine ay (others (is:=[kL,sd,il,ie,dd,ir,iu]) S) λF2 dG Vp=>?_
 have l7:(i_ C [kL,sd,il,ie,dd,ir,iu]).length=7:=GZ gS
 have sub:∀a∈i_ C [kL,sd,il,ie,dd,ir,iu],a∈C:=λa ha=>by obtain⟨i,_,e⟩:=Jq.mp ha;exact dy e
 have SK:St c (wb c w (aU KT)) J F2 (i_ C [kL,sd,il,ie,dd,ir,iu]) (stH 4000 [.tup [.str ⟨⟨[115,117,98]⟩⟩,one,body]] (dh 0 .any) x y) s.heap:=by
  refine S.mJ (β:=λi=>lQ i [kL,sd,il,ie,dd,ir,iu]) (FZ:=λ_=>dP) l7.symm (picked S.apart bu.nd λj a e=>Bp gS e) Vp (λa E _ sf=>⟨λq=>?_,λq=>sf.2 (sub a q)⟩) (λ_ _ q=>q.elim) (λi j a eb ei=>rg gS (Hd eb) ei) (λj a ej=>?_)
  .refine dC ((dG a).mp q) (λq=>?_) λq=>?_
   .exact sf.1 q
   .exact sf.2 q.1
  .refine ay (Bp gS ej) λi q1 q2=>?_
   refine eO (acr t0 t1 t2 HT HU bu q1) λE o2 z1 z2 z3=>?_
   exact⟨i,E,o2,q2,z1,(BQ (l7▸(eM.mp ej).1)).trans z2,z3⟩
 intro Q au q
 refine Sc Y F2 (i_ C [kL,sd,il,ie,dd,ir,iu]) s a0 a2 a3 a6 room SK (rg gS rfl e0) (rg gS rfl e2) (rg gS rfl e3) (rg gS rfl e6) _ _ λv dY h3 ey dp p3=>?_
 obtain⟨⟨ee,eA⟩,p3⟩:=p3
 have J_:∀(f:H) (lJ:MH),3900<=f->lJ.n=7+3*R.length->(∀j,j<7+3*R.length->lJ.t.get j=(nR f LB (wE R (dh p .any) 7) x' y'++eL R 7)[j]?)->St c (wb c w (aU KT)) J F2 dY lJ h3->
   bh [] C s.heap (C++ee) h3/\St c (wb c w aL) J F (C++ee) ⟨tN,o.n+3*R.length⟩ h3:=λf lJ hf hn hg S3=>
  SF S gS bu.nd rfl rfl dG dp S3 eA ET pe hn hg rfl (aax (β:=tp [kL,sd,il,ie,dd,ir,iu] o.n) hf t0 hx HV ox oy lp ll qf le rfl rfl rfl λi _=>by unfold tp;rw [bk (g7.mpr (ig 7 i)),jO])
 rcases uV with⟨rfl,rfl,rfl,rfl⟩|⟨rfl,rfl,rfl⟩
 .obtain⟨⟨ad,q3,rfl⟩,f,hf,S3⟩:=p3
  refine xA (J_ f _ hf rfl (λj hj=>by rw [BQ hj];show _=(nR f [] (dh p .any) x' y'++[])[j]?;rw [h_]) S3) λfc S4=>?_
  rw [<-eA,iD (by lia),rg gS rfl e3] at q3
  rw [<-aM q3]
  exact q (.ref a3) (C++ee) h3 ey fc ⟨S4,by show VR c (wb c w aL) F (C++ee) h3 (.ref ie) (.ref a3);exact⟨a3,by rw [iD (eM.mp e3).1];exact e3,rfl⟩⟩
 .refine xA p3 λeJ bB=>ay bB λf hf S3=>?_;rw [eJ]
  refine xA (J_ f _ hf (OP R) (λj hj=>by rw [OO le hj];unfold wL;rw [gM];rfl) S3) λfc S4=>?_
  exact q .none (C++ee) h3 ey fc ⟨S4,by show VR c (wb c w aL) F (C++ee) h3 .none .none;rfl⟩
end
section
set_option tactic.hygienic true
section
variable(c:a_)(w:dF)(J:aP)(KT:D)
noncomputable def mh(eC a:H)(args:G D)(res:D):Prop:=
 ∀(Y:bG) (F:G aA) (s:aT) (V:G aw),eY eC Y->St c (wb c w (aU KT)) J F [] ⟨.nil,0⟩ s.heap->aW c (wb c w (aU KT)) F [] s.heap args V->bc c (wb c w (aU KT)) Y [] [] s (call (.ref a) V) (λv _ M=>VR c (wb c w (aU KT)) F [] M res v)
noncomputable def qx(eC a:H)(t:D)(x:ar)(r res:D):Prop:=
 ∀(Y:bG) (F:G aA) (ad:aA) (s:aT) (v:aw),eY eC Y->St c (wb c w (aU KT)) J F [ad] (fA [.dict [(.str x,r)]]) s.heap->VR c (wb c w (aU KT)) F [ad] s.heap t v->bc c (wb c w (aU KT)) Y [] [ad] s (call (.ref a) [v,.ref ad]) (λu _ M=>St c (wb c w (aU KT)) J F [ad] (fA [.dict [(.str x,r)]]) M/\VR c (wb c w (aU KT)) F [ad] M res u)
end
section
variable{c:a_}{w:dF}{Y:bG}{F C ao F2 bf:G aA}{s:aT}{J h M:aP}{o br dz q6:MH}{K:b8}{W WE:bQ}{mg mb:ar->aa aw}{n:H}{X:cK}{aL aQ aJ:H->aa D}{KT:D}{eC a:H}
theorem cE.one(x:cE aQ aJ [m] [m'])(o:MH)(β:H->aa H)(FZ:H->Prop):Cv aQ aJ o β FZ m m':=by
 have:=x o β FZ
 cases this with
 |cons I _=>exact I
theorem St.bare(S:St c (wb c w aL) J F C o h)(hF:∀a∈F2,a∈F\/a∈C)(aJ:H->aa D):St c (wb c w aJ) J F2 [] ⟨.nil,0⟩ h:=by
 refine S.mJ (β:=λ_=>.none) (FZ:=λ_=>dP) rfl rO (λa ha=>?_) (λa E _ sf=>⟨λq=>(hF a q).elim sf.1 sf.2,λq=>nomatch q⟩) (λ_ _ q=>q.elim) (λ_ _ _ q=>nomatch q) (λj a e=>by simp at e)
 rcases hF a ha with q|q
 .refine cf (S.cI a q) λq1 _ q3=>?_
  exact⟨q1,(λz=>nomatch z),q3⟩
 .obtain⟨i,hi,e⟩:=iE q
  refine ay (S.at_ i a (by rw [cV hi,e])) λE _ x=>?_
  refine⟨x.some,(λz=>nomatch z),?_⟩
  cases z:J.get? a with
  |none=>rfl
  |some E=>exact bP q (S.keep a E z).2
theorem cE.qp(I:cE aQ aJ B l')(S:St c (wb c w aQ) J F C o h)(hF:∀a∈F2,a∈F\/a∈C)(dM:∀a∈bf,a∈F\/a∈C)(y:aW c (wb c w aQ) F C h B V):aW c (wb c w aJ) F2 bf h l' V:=
 cG.ok S (β:=λ_=>.none) (FZ:=λ_=>dP) (λ_ _ _ q=>nomatch q) (λb E _ sf=>⟨λq=>(hF b q).elim sf.1 sf.2,λq=>(dM b q).elim sf.1 sf.2⟩) (λ_ _ q=>q.elim) (I _ _ _) y
theorem cE.vr(I:cE aQ aJ [m] [m'])(S:St c (wb c w aQ) J F C o h)(hF:∀a∈F2,a∈F\/a∈C)(dM:∀a∈bf,a∈F\/a∈C)(y:VR c (wb c w aQ) F C h m v):VR c (wb c w aJ) F2 bf h m' v:=by
 obtain⟨v',r,e,x,_⟩:=(I.qp S hF dM (.one y)).cj
 cases e
 exact x
theorem Hh(gq:Sound (λr:aa D=>r=some nO) c (wb c w aL) J eC (run ip W eC))(ev:(run ip W eC).call (.fn a) oh ⟨.nil,0⟩ (λm _=>some m)=some nO)(ca:cE (aU KT) aL args oh)(cr:cE aL (aU KT) [nO] [res]):mh c w J KT eC a args res:=by
 intro Y F s V room S y Q au q
 refine gq.call Y F [] s ⟨.nil,0⟩ (.fn a) (.ref a) oh V _ room (S.bare (λa ha=>.inl ha) aL) (by rfl) (ca.qp S (λa ha=>.inl ha) (λa ha=>nomatch ha) y) ev _ _ λv bq h1 aZ aS p1=>?_
 obtain⟨m,bM,e1,S1,x1⟩:=p1
 cases e1
 exact q v bq h1 aZ aS (cr.vr S1 (λa ha=>.inl ha) (λa ha=>nomatch ha) x1)
theorem rh(P:mh c w J KT eC a args res)(ca:cE aL (aU KT) oh args)(cr:cE (aU KT) aL [res] [nO]):nV c (wb c w aL) J eC a oh o nO o:=by
 intro Y F C s V room S y Q au q
 have dG:∀a∈F++C,a∈F\/a∈C:=λa ha=>dI.mp ha
 have SK:=S.bare dG (aU KT)
 refine P Y (F++C) s V room SK (ca.qp S dG (λa ha=>nomatch ha) y) _ _ λv bq h1 aZ aS p1=>?_
 have keep:∀b E,s.heap.get? b=some E->h1.get? b=some E:=λb E e=>aS.keep b E e (λz=>nomatch z) (λz=>nomatch z)
 refine xA (S.grow keep) λst S1=>?_
 refine xA (SK.grow keep) λ_ RU=>?_
 exact q v C h1 aZ st ⟨S1,cr.vr RU (λa ha=>.inl (iR _ ha)) (λa ha=>.inl (fC _ ha)) p1⟩
theorem Z0(E:cL):(fA [E]).t.get 0=some E:=rfl
theorem Ua(pr:bC r=true)(gq:Sound (λE:aa D=>E=some (.tup [.str x,r,nO])) c (wb c w aL) J eC (run ip W eC))(ev:(run ip W eC).call (.fn a) [t',.ref 0] (fA [.dict [(.str x,r)]]) kD=some (.tup [.str x,r,nO]))(ct:cE (aU KT) aL [t] [t'])(cr:cE aL (aU KT) [nO] [res]):qx c w J KT eC a t x r res:=by
 intro Y F ad s v room S y Q au q
 have one:∀{tb Ia:H->aa D} {bq:G aA} {bM:MH} {h:aP},[ad]<+:bq->St c (wb c w tb) J F bq bM h->bM.t.get 0=some (.dict [(.str x,r)])->St c (wb c w Ia) J F [ad] (fA [.dict [(.str x,r)]]) h:=by
  intro tb Ia bq bM h hp S1 e
  have h0:bq[0]?=some ad:=by rw [ja hp (ug _)];rfl
  refine S1.mJ (β:=λi=>if i=0 then some 0 else .none) (FZ:=λ_=>dP) rfl (by simp) (λa ha=>?_) (λa E _ sf=>⟨sf.1,λz=>sf.2 (hp.subset z)⟩) (λ_ _ q=>q.elim) (λi j a eb ei=>?_) (λj a ej=>?_)
  .refine cf (S1.cI a ha) λq1 q2 q3=>?_
   exact⟨q1,λz=>q2 (hp.subset z),q3⟩
  .split at eb
   .rename_i z;cases eb;rw [z,h0] at ei;exact ei
   .exact aB eb
  .match j,ej with
   |0,ej=>cases ej;exact⟨0,_,_,h0,e,rfl,.dict rfl (.cons (.same pr) .nil)⟩
   |j+1,ej=>exact aB ej
 have S':=one (Ia:=aL) (mT _) S (Z0 _)
 have y1:VR c (wb c w aL) F [ad] s.heap t' v:=ct.vr S (λa ha=>.inl ha) (λa ha=>.inr ha) y
 refine gq.call Y F [ad] s (fA [.dict [(.str x,r)]]) (.fn a) (.ref a) [t',.ref 0] [v,.ref ad] kD room S' (by rfl) (.cons y1 (.one (by exact⟨ad,rfl,rfl⟩))) ev _ _ λu bq h1 aZ aS p1=>?_
 obtain⟨m,bM,e1,S1,x1⟩:=p1
 have e1:kD m bM=some (.tup [.str x,r,nO]):=e1
 have hd:bM.t.get 0=some (.dict [(.str x,r)])/\m=nO:=by
  unfold kD at e1
  generalize h:bM.t.get 0=ax at e1
  cases ax with
  |none=>exact aB e1
  |some E=>
   cases E with
   |dict R=>
    match R,e1 with
    |[],e1=>exact aB e1
    |_::_::_,e1=>exact aB e1
    |[(p1,p2)],e1=>cases e1;exact⟨rfl,rfl⟩
   |_=>exact aB e1
 refine xA hd ?_;clear hd;intro hd aI;obtain rfl:=aI.symm
 refine q u bq h1 aZ aS ⟨one aS.pre S1 hd,cr.vr S1 (λa ha=>.inl ha) (λa ha=>.inr (aS.pre.subset ha)) x1⟩
theorem DW(pr:bC r=true)(bj:qx c w J KT eC a t x r res)(ct:cE aL (aU KT) [t'] [t])(cr:cE (aU KT) aL [res] [nO])(hj:o.t.get j=some (.dict [(.str x,r)])):nV c (wb c w aL) J eC a [t',.ref j] o nO o:=by
 intro Y F C s V room S y Q au q
 obtain⟨v1,r0,rfl,y1,y0⟩:=y.cj
 replace y0:=y0.cj;obtain⟨v2,r0,rfl,y2,y0⟩:=y0
 rw [y0.dW]
 refine ay y2 ?_;clear y2;intro ad ej aE;rw [aE]
 have EJ:ad∈C:=dy ej
 have dG:∀b,b∈F++C.filter (λb=>!(b==ad))↔b∈F\/(b∈C/\b≠ad):=λb=>by
  rw [dI,t7]
  simp
 generalize F++C.filter (λb=>!(b==ad))=F2 at dG
 have h2:∀b∈[ad],b∈C:=λb hb=>by rw [cA.mp hb];exact EJ
 have SK:St c (wb c w (aU KT)) J F2 [ad] (fA [.dict [(.str x,r)]]) s.heap:=by
  refine S.mJ (β:=λi=>if i=j then some 0 else .none) (FZ:=λ_=>dP) rfl (by simp) (λb hb=>?_) (λb E _ sf=>⟨λz=>((dG b).mp z).elim sf.1 λz=>sf.2 z.1,λz=>sf.2 (h2 b z)⟩) (λ_ _ q=>q.elim) (λi j' b eb ei=>?_) (λj' b qK=>?_)
  .rcases(dG b).mp hb with z|⟨z1,z2⟩
   .refine cf (S.cI b z) λq1 q2 q3=>?_
    exact⟨q1,λz=>q2 (h2 b z),q3⟩
   .obtain⟨i,hi,e⟩:=iE z1
    refine ay (S.at_ i b (by rw [cV hi,e])) λE _ xo=>?_
    refine⟨xo.some,λz=>z2 (cA.mp z),?_⟩
    cases z:J.get? b with
    |none=>rfl
    |some E=>exact bP z1 (S.keep b E z).2
  .split at eb
   .rename_i z;cases eb;rw [z,ej] at ei;exact ei
   .exact aB eb
  .match j',qK with
   |0,qK=>cases qK;exact⟨j,_,_,ej,hj,rfl,.dict rfl (.cons (.same pr) .nil)⟩
   |j'+1,qK=>exact aB qK
 have Wm:∀b∈F2,b∈F\/b∈C:=λb hb=>((dG b).mp hb).imp id (·.1)
 refine bj Y F2 ad s v1 room SK (ct.vr S Wm (λb hb=>.inr (h2 b hb)) y1) _ _ λu bq h1 aZ aS p1=>?_
 refine xA p1 λS1 x1=>?_
 have tG:bh [] [ad] s.heap [ad] h1:=⟨mT _,aS.keep,λb E e nn=>⟨(aS.out b E e nn).1,nn⟩⟩
 have e0:C++[]=C:=h_ C
 have fr:=S.frame (e:=[]) (q6:=o) tG S1 rfl h2 (λb hb=>(dG b).mpr (.inl hb)) (λb hb hn=>(dG b).mpr (.inr ⟨hb,λz=>hn (by rw [z];exact .head _)⟩)) rfl (β:=λi=>if i=0 then some j else .none) (λj' i b eb qK=>by
  rw [e0]
  split at eb
  .rename_i z;cases eb;rw [z] at qK;cases qK;exact ej
  .exact aB eb) (λi b ei=>by
  rw [e0] at ei
  by_cases z:b=ad
  .obtain rfl:=z.symm
   have:=qe S.apart ei ej
   rw [this]
   exact .inr ⟨0,_,_,rfl,rfl,hj,.dict rfl (.cons (.same pr) .nil)⟩
  .exact .inl ⟨ei,λq=>z (cA.mp q),rfl⟩)
 rw [e0] at fr
 refine xA fr λst S2=>?_
 refine q u C h1 aZ st ⟨S2,cr.vr S1 (λb hb=>.inl ((dG b).mpr (.inl hb))) (λb hb=>?_) x1⟩
 by_cases z:b=ad
 .exact .inr (by rw [z];exact .head _)
 .exact .inl ((dG b).mpr (.inr ⟨hb,z⟩))
end
end
structure Base(c:a_)(w:dF)(K:b8)(W:bQ)(J:aP)(mg mb:ar->aa aw):Prop where
 AO:K.In J
 ng:J.Ns mB mg
 nb:J.Ns qH mb
 lim:J.NoLimit
 sys:∃E,J.get? tK=some E
 glob:∀x m,W.glob x=some m->Ck c (w0 w) J mg mb x m/\j6 m=true
 cls:∀aq p,W.cls aq=some p->xa K p.2 aq p.1=true
 call:∀a,r9 W (.fn a)=true->keepIn K (.ref a)=true
 fns:∀a az,W.fn a=some az->(∃E fd dv,nX c (w0 w) J a az E fd dv)/\mD az.jg=true
noncomputable def uk(c:a_)(w:dF)(aL:H->aa D)(tv:H->aa D):Prop:=∀i m,tv i=some m->∃m0,aL i=some m0/\∀F C h v,VR c (w0 w) F C h m0 v->VR c (wb c w aL) F C h m v
section
variable{c:a_}{w:dF}{J h:aP}{K:b8}{W:bQ}{mg mb:ar->aa aw}{aL:H->aa D}{gX:H->G D->MH->aa (H×D×MH)}{tv:H->aa D}{eq:D->D->aa ah}{pull:H}
theorem Base.top(aV:Base c w K W J mg mb)(hv:uk c w aL tv)(he:∀a b r,eq a b=some r->tV c (wb c w aL) J a b r):Top c (wb c w aL) K (gp W gX tv eq pull) J mg mb where
 AO:=aV.AO
 ng:=aV.ng
 nb:=aV.nb
 lim:=aV.lim
 sys:=aV.sys
 glob:=λx m e=>by
  refine xA (aV.glob x m e) λh1 h2=>?_
  rcases h1 with⟨v,q1,q2⟩|q
  .exact .inl ⟨v,q1,q2.chg (w:=w0 w) (w':=wb c w aL) rfl h2⟩
  .exact .inr q
 cls:=aV.cls
 call:=aV.call
 rz:=λi m F C h v e x=>by
  refine ay (hv i m e) λm0 e0 k=>?_
  refine iZ x λm1 e1 _ _ x1=>?_
  rw [e0] at e1
  cases e1
  exact k F C h v x1
 eqv:=he
theorem Base.VQ(aV:Base c w K W J mg mb):y9 c (wb c w aL) J (gp W gX tv eq pull):=λa az e=>by
 obtain⟨⟨E,fd,dv,bu⟩,n⟩:=aV.fns a az e
 exact⟨E,fd,dv,⟨bu.obj,bu.data,bu.code,bu.ok,bu.kind,bu.body,bu.names,bu.Oa,bu.kinds,bu.np,bu.nd,bu.nf,bu.dflt,bu.KX.chg (w:=w0 w) (w':=wb c w aL) rfl n⟩⟩
theorem Base.fn(aV:Base c w K W J mg mb)(e:W.fn a=some az):∃E fd dv,nX c (wb c w aL) J a az E fd dv:=by
 obtain⟨⟨E,fd,dv,bu⟩,n⟩:=aV.fns a az e
 exact⟨E,fd,dv,⟨bu.obj,bu.data,bu.code,bu.ok,bu.kind,bu.body,bu.names,bu.Oa,bu.kinds,bu.np,bu.nd,bu.nf,bu.dflt,bu.KX.chg (w:=w0 w) (w':=wb c w aL) rfl n⟩⟩
theorem Base.sound(aV:Base c w K W J mg mb)(hv:uk c w aL tv)(he:∀a b r,eq a b=some r->tV c (wb c w aL) J a b r)(ho:iF c (wb c w aL) J (gp W gX tv eq pull))(hp:W.fn pull=none\/qD c (wb c w aL) J pull)
  (Zk:bZ Z ae) (n:H):Sound ae c (wb c w aL) J n (run Z (gp W gX tv eq pull) n):=
 Mine.Internal.sound Zk (aV.top hv he) aV.VQ ho (hp.symm.imp id id) n
theorem Df{α:Type}{Z:cU (aa α)}(h1:Z.fail=none)(h2:∀n k,Z.all n k=none)(x:α):bZ Z (λr=>r=some x):=by
 refine⟨λ(e:Z.fail=some x)=>?_,λn k (e:Z.all n k=some x)=>?_⟩
 .rw [h1] at e;exact aB e
 .rw [h2] at e;exact aB e
theorem De(x:Lk):bZ jR (λr=>r=some x):=Df rfl (λ_ _=>rfl) x
theorem So(x:Lz):bZ zI (λr=>r=some x):=Df rfl (λ_ _=>rfl) x
theorem mj(x:D):bZ ip (λr=>r=some x):=Df rfl (λ_ _=>rfl) x
theorem lM:iF c (wb c w aL) J (gp W (λ_ _ _=>.none) tv eq pull):=λa B o p e=>by exact aB e
theorem hN:∀a b r,(λ(_ _:D)=>(none:aa ah)) a b=some r->tV c (wb c w aL) J a b r:=λa b r e=>by exact aB e
theorem ae0(h:∀i m,tv i=some m->aL i=some m/\j6 m=true):uk c w aL tv:=λi m e=>⟨m,(h i m e).1,λF C hp v x=>x.chg (w:=w0 w) (w':=wb c w aL) rfl (h i m e).2⟩
end
noncomputable def VN:G (H×H×aa H×G D):=[
 (21,0,none,[]),
 (33,4,none,[D.tup []]),
 (41,5,none,[D.none]),
 (48,6,none,[]),
 (55,7,none,[]),
 (62,8,none,[]),
 (67,9,none,[]),
 (72,10,none,[]),
 (79,11,none,[]),
 (84,12,none,[]),
 (98,15,some 0,[]),
 (105,15,some 1,[]),
 (112,15,some 2,[]),
 (119,15,some 3,[]),
 (126,15,some 4,[]),
 (148,16,some 0,[D.none,D.int 0]),
 (155,16,some 1,[]),
 (162,16,some 2,[]),
 (169,16,some 3,[]),
 (176,16,some 4,[]),
 (183,16,some 5,[]),
 (190,16,some 6,[]),
 (197,16,some 7,[]),
 (209,17,none,[]),
 (216,18,none,[]),
 (223,19,none,[]),
 (228,20,none,[]),
 (233,21,none,[]),
 (238,22,none,[]),
 (245,23,none,[]),
 (263,27,some 0,[]),
 (270,27,some 1,[]),
 (277,27,some 2,[]),
 (284,27,some 3,[]),
 (291,27,some 4,[]),
 (296,27,some 5,[]),
 (301,27,some 6,[]),
 (306,27,some 7,[]),
 (311,27,some 8,[]),
 (318,27,some 9,[])]
noncomputable def VO:G (H×H×aa H×G D):=[
 (323,27,some 10,[]),
 (330,27,some 11,[]),
 (335,27,some 12,[]),
 (349,28,none,[]),
 (356,29,none,[]),
 (363,30,none,[]),
 (368,31,none,[]),
 (376,32,none,[D.int 4000]),
 (382,33,none,[D.int 4000]),
 (387,34,none,[]),
 (402,36,some 0,[D.none]),
 (441,44,some 0,[D.bool false,D.tup []]),
 (446,44,some 1,[]),
 (451,44,some 2,[]),
 (458,44,some 3,[]),
 (479,45,some 0,[]),
 (484,45,some 1,[]),
 (491,45,some 2,[]),
 (498,45,some 3,[]),
 (505,45,some 4,[]),
 (512,45,some 5,[]),
 (519,45,some 6,[]),
 (526,45,some 7,[]),
 (533,45,some 8,[]),
 (540,45,some 9,[]),
 (545,45,some 10,[]),
 (560,46,none,[D.bool false]),
 (567,47,none,[]),
 (574,48,none,[]),
 (581,49,none,[]),
 (588,51,none,[]),
 (595,52,none,[]),
 (602,53,none,[]),
 (609,54,none,[]),
 (616,55,none,[]),
 (623,56,none,[]),
 (630,57,none,[]),
 (637,58,none,[]),
 (642,59,none,[]),
 (649,60,none,[])]
noncomputable def VP:G (H×H×aa H×G D):=[
 (654,61,none,[]),
 (659,62,none,[])]
noncomputable def mw:G (H×H×aa H×G D):=VN++VO++VP
noncomputable def zU:G (H×G (ar×H)×G ar):=[
 (129,[(⟨⟨[95,95,105,110,105,116,95,95]⟩⟩,98),(⟨⟨[119,105,116,104,95,108,111,119,101,114]⟩⟩,105),(⟨⟨[119,105,116,104,95,117,112,112,101,114]⟩⟩,112),(⟨⟨[108,111,119,101,114]⟩⟩,119),(⟨⟨[117,112,112,101,114]⟩⟩,126)],[⟨⟨[105,115,95,97,115,107,101,100]⟩⟩,⟨⟨[111,114,100,101,114]⟩⟩,⟨⟨[108,111,119,101,114,115]⟩⟩,⟨⟨[117,112,112,101,114,115]⟩⟩,⟨⟨[105,115,95,100,105,97,103,111,110,97,108]⟩⟩]),
 (200,[(⟨⟨[95,95,105,110,105,116,95,95]⟩⟩,148),(⟨⟨[99,111,112,105,101,100]⟩⟩,155),(⟨⟨[111,112,101,110,101,100]⟩⟩,162),(⟨⟨[115,105,100,101]⟩⟩,169),(⟨⟨[105,115,95,97,115,107,101,100]⟩⟩,176),(⟨⟨[97,100,100,95,108,111,119,101,114]⟩⟩,183),(⟨⟨[97,100,100,95,117,112,112,101,114]⟩⟩,190),(⟨⟨[108,97,116,101,114,95,111,110,101,115]⟩⟩,197)],[⟨⟨[114,111,119,115]⟩⟩,⟨⟨[109,97,110,121]⟩⟩]),
 (338,[(⟨⟨[95,95,105,110,105,116,95,95]⟩⟩,263),(⟨⟨[114,117,110]⟩⟩,270),(⟨⟨[115,101,116,116,108,101,100]⟩⟩,277),(⟨⟨[115,116,101,112]⟩⟩,284),(⟨⟨[110,117,109,98,101,114,115]⟩⟩,291),(⟨⟨[98,101,108,111,119]⟩⟩,296),(⟨⟨[97,98,111,118,101]⟩⟩,301),(⟨⟨[98,121,95,102,111,114,109]⟩⟩,306),(⟨⟨[99,104,111,115,101,110]⟩⟩,311),(⟨⟨[112,108,97,105,110]⟩⟩,318),(⟨⟨[110,111,109,105,110,97,108]⟩⟩,323),(⟨⟨[97,114,101,95,99,111,110,99,114,101,116,101]⟩⟩,330),(⟨⟨[105,115,95,111,110,101]⟩⟩,335)],[⟨⟨[107,105,110,100,115]⟩⟩,⟨⟨[102,117,101,108]⟩⟩]),
 (461,[(⟨⟨[95,95,105,110,105,116,95,95]⟩⟩,441),(⟨⟨[116,97,98,108,101,95,102,111,114]⟩⟩,446),(⟨⟨[119,104,111,108,101]⟩⟩,451),(⟨⟨[102,105,101,108,100,95,107,105,110,100,115]⟩⟩,458)],[⟨⟨[110,97,109,101]⟩⟩,⟨⟨[112,97,114,97,109,115]⟩⟩,⟨⟨[115,117,112,101,114]⟩⟩,⟨⟨[105,115,95,97,98,115,116,114,97,99,116]⟩⟩,⟨⟨[105,115,95,109,117,116,97,98,108,101]⟩⟩,⟨⟨[102,105,101,108,100,115]⟩⟩]),
 (548,[(⟨⟨[95,95,105,110,105,116,95,95]⟩⟩,479),(⟨⟨[100,101,99,108,97,114,101]⟩⟩,484),(⟨⟨[105,115,95,100,101,99,108,97,114,101,100]⟩⟩,491),(⟨⟨[100,101,99,108]⟩⟩,498),(⟨⟨[115,117,112,101,114,95,111,102]⟩⟩,505),(⟨⟨[115,117,112,101,114,115]⟩⟩,512),(⟨⟨[117,110,100,101,114]⟩⟩,519),(⟨⟨[97,112,112,108,105,101,100]⟩⟩,526),(⟨⟨[105,115,95,119,105,116,104,105,110]⟩⟩,533),(⟨⟨[119,104,111,108,101]⟩⟩,540),(⟨⟨[105,115,95,99,111,110,99,114,101,116,101]⟩⟩,545)],[⟨⟨[100,101,99,108,115]⟩⟩])]
noncomputable def Wd:G (ar×D):=[
 (⟨⟨[95,119,97,108,108]⟩⟩,D.fn 21),
 (⟨⟨[110,97,109,101,100]⟩⟩,D.fn 33),
 (⟨⟨[116,117,112,108,101,95,111,102]⟩⟩,D.fn 41),
 (⟨⟨[117,110,105,111,110,95,111,102]⟩⟩,D.fn 48),
 (⟨⟨[112,97,114,116,115,95,111,102,95,107,105,110,100]⟩⟩,D.fn 55),
 (⟨⟨[114,101,98,117,105,108,116,95,107,105,110,100]⟩⟩,D.fn 62),
 (⟨⟨[115,117,98,115,116,105,116,117,116,101,100]⟩⟩,D.fn 67),
 (⟨⟨[102,114,101,101,95,118,97,114,115]⟩⟩,D.fn 72),
 (⟨⟨[98,105,110,100,101,114,95,116,101,120,116]⟩⟩,D.fn 79),
 (⟨⟨[107,105,110,100,95,116,101,120,116]⟩⟩,D.fn 84),
 (⟨⟨[83,105,100,101]⟩⟩,D.fn 129),
 (⟨⟨[83,105,100,101,115]⟩⟩,D.fn 200),
 (⟨⟨[111,99,99,117,114,114,101,110,99,101,115]⟩⟩,D.fn 209),
 (⟨⟨[98,111,117,110,100,95,111,99,99,117,114,114,101,110,99,101,115]⟩⟩,D.fn 216),
 (⟨⟨[105,115,95,100,105,97,103,111,110,97,108]⟩⟩,D.fn 223),
 (⟨⟨[108,101,102,116,95,99,97,115,101,115]⟩⟩,D.fn 228),
 (⟨⟨[116,117,112,108,101,95,99,97,115,101,115]⟩⟩,D.fn 233),
 (⟨⟨[105,115,95,101,109,112,116,121]⟩⟩,D.fn 238),
 (⟨⟨[116,97,105,108,95,111,102]⟩⟩,D.fn 245),
 (⟨⟨[83,101,97,114,99,104]⟩⟩,D.fn 338),
 (⟨⟨[110,97,114,114,111,119,101,100]⟩⟩,D.fn 349),
 (⟨⟨[119,105,100,101,110,101,100]⟩⟩,D.fn 356),
 (⟨⟨[104,97,115,95,119,105,116,104,105,110]⟩⟩,D.fn 363),
 (⟨⟨[116,117,112,108,101,95,119,97,121,115]⟩⟩,D.fn 368),
 (⟨⟨[105,115,95,115,117,98,116,121,112,101]⟩⟩,D.fn 376),
 (⟨⟨[109,97,116,99,104,101,100]⟩⟩,D.fn 382),
 (⟨⟨[116,111,108,100,95,112,97,114,97,109]⟩⟩,D.fn 387),
 (⟨⟨[82,111,119,115,69,114,114,111,114]⟩⟩,D.fn 405),
 (⟨⟨[75,105,110,100,70,97,117,108,116]⟩⟩,D.fn 418),
 (⟨⟨[68,101,99,108]⟩⟩,D.fn 461),
 (⟨⟨[75,105,110,100,115]⟩⟩,D.fn 548),
 (⟨⟨[110,111,109,105,110,97,108]⟩⟩,D.fn 560),
 (⟨⟨[115,116,97,114,116,95,107,105,110,100,115]⟩⟩,D.fn 567),
 (⟨⟨[115,116,97,114,116,95,101,114,114,111,114,115]⟩⟩,D.fn 574),
 (⟨⟨[115,116,97,114,116,95,114,111,119,115]⟩⟩,D.fn 581),
 (⟨⟨[95,108,97,119,95,106,97,114]⟩⟩,D.fn 588),
 (⟨⟨[95,108,97,119,95,112,117,108,108]⟩⟩,D.fn 595),
 (⟨⟨[95,108,97,119,95,110,97,109,101]⟩⟩,D.fn 602),
 (⟨⟨[95,108,97,119,95,97,114,114,97,121]⟩⟩,D.fn 609),
 (⟨⟨[95,108,97,119,95,112,97,114,116]⟩⟩,D.fn 616)]
noncomputable def We:G (ar×D):=[
 (⟨⟨[95,108,97,119,95,99,111,110,99,114,101,116,101]⟩⟩,D.fn 623),
 (⟨⟨[95,108,97,119,95,115,105,103]⟩⟩,D.fn 630),
 (⟨⟨[95,108,97,119,95,109,97,100,101]⟩⟩,D.fn 637),
 (⟨⟨[95,108,97,119,95,100,117,101]⟩⟩,D.fn 642),
 (⟨⟨[95,108,97,119,95,102,105,120,101,100,95,114,105,103,104,116]⟩⟩,D.fn 649),
 (⟨⟨[95,108,97,119,95,119,114,111,110,103,95,114,105,103,104,116]⟩⟩,D.fn 654),
 (⟨⟨[108,97,119]⟩⟩,D.fn 659),
 (⟨⟨[65,78,89]⟩⟩,D.tup [D.str ⟨⟨[110,97,109,101]⟩⟩,D.str ⟨⟨[65,110,121]⟩⟩,D.tup []]),
 (⟨⟨[66,79,84,84,79,77]⟩⟩,D.tup [D.str ⟨⟨[98,111,116,116,111,109]⟩⟩]),
 (⟨⟨[84,89,80,69]⟩⟩,D.tup [D.str ⟨⟨[110,97,109,101]⟩⟩,D.str ⟨⟨[84,121,112,101]⟩⟩,D.tup []]),
 (⟨⟨[70,85,78,67,84,73,79,78]⟩⟩,D.tup [D.str ⟨⟨[110,97,109,101]⟩⟩,D.str ⟨⟨[70,117,110,99,116,105,111,110]⟩⟩,D.tup []]),
 (⟨⟨[83,73,71,78,69,68]⟩⟩,D.tup [D.str ⟨⟨[73,110,116,56]⟩⟩,D.str ⟨⟨[73,110,116,49,54]⟩⟩,D.str ⟨⟨[73,110,116,51,50]⟩⟩,D.str ⟨⟨[73,110,116,54,52]⟩⟩,D.str ⟨⟨[66,105,103,73,110,116]⟩⟩]),
 (⟨⟨[85,78,83,73,71,78,69,68]⟩⟩,D.tup [D.str ⟨⟨[85,73,110,116,56]⟩⟩,D.str ⟨⟨[85,73,110,116,49,54]⟩⟩,D.str ⟨⟨[85,73,110,116,51,50]⟩⟩,D.str ⟨⟨[85,73,110,116,54,52]⟩⟩]),
 (⟨⟨[80,76,65,73,78,95,69,82,82,79,82,83]⟩⟩,D.tup [D.str ⟨⟨[68,105,118,105,100,101,69,114,114,111,114]⟩⟩,D.str ⟨⟨[73,110,101,120,97,99,116,69,114,114,111,114]⟩⟩,D.str ⟨⟨[84,121,112,101,69,114,114,111,114]⟩⟩,D.str ⟨⟨[83,116,97,99,107,79,118,101,114,102,108,111,119,69,114,114,111,114]⟩⟩]),
 (⟨⟨[84,69,88,84,95,69,82,82,79,82,83]⟩⟩,D.tup [D.str ⟨⟨[65,114,103,117,109,101,110,116,69,114,114,111,114]⟩⟩,D.str ⟨⟨[79,118,101,114,102,108,111,119,69,114,114,111,114]⟩⟩,D.str ⟨⟨[68,105,109,101,110,115,105,111,110,77,105,115,109,97,116,99,104]⟩⟩,D.str ⟨⟨[69,114,114,111,114,69,120,99,101,112,116,105,111,110]⟩⟩]),
 (⟨⟨[67,65,76,76,95,69,82,82,79,82,83]⟩⟩,D.tup [D.str ⟨⟨[77,101,116,104,111,100,69,114,114,111,114]⟩⟩,D.str ⟨⟨[65,109,98,105,103,117,111,117,115,69,114,114,111,114]⟩⟩]),
 (⟨⟨[77,79,83,84,95,67,65,83,69,83]⟩⟩,D.int 64),
 (⟨⟨[108,105,115,116]⟩⟩,D.bi .list),
 (⟨⟨[116,117,112,108,101]⟩⟩,D.bi .tuple),
 (⟨⟨[100,105,99,116]⟩⟩,D.bi .dict),
 (⟨⟨[115,116,114]⟩⟩,D.bi .str),
 (⟨⟨[105,110,116]⟩⟩,D.bi .int),
 (⟨⟨[108,101,110]⟩⟩,D.bi .len),
 (⟨⟨[109,97,120]⟩⟩,D.bi .max),
 (⟨⟨[115,117,109]⟩⟩,D.bi .sum),
 (⟨⟨[109,105,110]⟩⟩,D.bi .min),
 (⟨⟨[115,111,114,116,101,100]⟩⟩,D.bi .sorted),
 (⟨⟨[114,97,110,103,101]⟩⟩,D.bi .range),
 (⟨⟨[122,105,112]⟩⟩,D.bi .zip)]
noncomputable def Am:G (ar×D):=Wd++We
noncomputable def defAt(P:a_)(i:H)(j:aa H):aa en:=match P.main.body[i]?,j with
 |some s,.none=>some s
 |some (.ClassDef _ _ _ b _ _ _ _ _ _ _),some j=>b[j]?
 |_,_=>.none
noncomputable def VM(ds:G D):en->aa Fn
 |.FunctionDef _ a b _ _ _ sc _ _ _=>some ⟨a.args.length,ds,b,sc.names⟩
 |_=>.none
noncomputable def yg{α:Type}(B:G (H×α))(x:H):aa α:=@b9 (H×α) (λ_=>aa α) .none (λp _ O=>@bN (λ_=>aa α) O (some p.2) (bA p.1 x)) B
noncomputable def xw(P:a_)(x:H×aa H×G D):aa Fn:=match defAt P x.1 x.2.1 with
 |some s=>VM x.2.2 s
 |.none=>.none
noncomputable def fnIn(P:a_)(a:H):aa Fn:=match yg mw a with
 |some x=>xw P x
 |.none=>.none
noncomputable def WP(P:a_)(gX:H->G D->MH->aa (H×D×MH))(rz:H->aa D)(eqv:D->D->aa ah):bQ:=⟨λx=>g_ Am x,fnIn P,yg zU,595,gX,rz,eqv⟩
noncomputable def ag2(ns:G ba):D:=.aD (.list 63) (ns.map D.int)
noncomputable def af9:cU ah:=⟨false,λn k=>(fZ n).all k⟩
noncomputable def aH:D:=(.aD (.inst 548 [⟨⟨[100,101,99,108,115]⟩⟩]) [(.aD (.dict [⟨⟨[65,110,121]⟩⟩,⟨⟨[84,121,112,101]⟩⟩,⟨⟨[70,117,110,99,116,105,111,110]⟩⟩,⟨⟨[78,117,109,98,101,114]⟩⟩,⟨⟨[65,98,115,116,114,97,99,116,67,104,97,114]⟩⟩,⟨⟨[65,98,115,116,114,97,99,116,83,116,114,105,110,103]⟩⟩,⟨⟨[69,120,99,101,112,116,105,111,110]⟩⟩,⟨⟨[82,101,97,108]⟩⟩,⟨⟨[73,110,116,101,103,101,114]⟩⟩,⟨⟨[83,105,103,110,101,100]⟩⟩,⟨⟨[85,110,115,105,103,110,101,100]⟩⟩,⟨⟨[73,110,116,56]⟩⟩,⟨⟨[73,110,116,49,54]⟩⟩,⟨⟨[73,110,116,51,50]⟩⟩,⟨⟨[73,110,116,54,52]⟩⟩,⟨⟨[66,105,103,73,110,116]⟩⟩,⟨⟨[85,73,110,116,56]⟩⟩,⟨⟨[85,73,110,116,49,54]⟩⟩,⟨⟨[85,73,110,116,51,50]⟩⟩,⟨⟨[85,73,110,116,54,52]⟩⟩,⟨⟨[66,111,111,108]⟩⟩,⟨⟨[67,104,97,114]⟩⟩,⟨⟨[83,116,114,105,110,103]⟩⟩,⟨⟨[83,121,109,98,111,108]⟩⟩,⟨⟨[78,111,116,104,105,110,103]⟩⟩,⟨⟨[69,120,112,114]⟩⟩,⟨⟨[68,105,118,105,100,101,69,114,114,111,114]⟩⟩,⟨⟨[73,110,101,120,97,99,116,69,114,114,111,114]⟩⟩,⟨⟨[84,121,112,101,69,114,114,111,114]⟩⟩,⟨⟨[83,116,97,99,107,79,118,101,114,102,108,111,119,69,114,114,111,114]⟩⟩,⟨⟨[65,114,103,117,109,101,110,116,69,114,114,111,114]⟩⟩,⟨⟨[79,118,101,114,102,108,111,119,69,114,114,111,114]⟩⟩,⟨⟨[68,105,109,101,110,115,105,111,110,77,105,115,109,97,116,99,104]⟩⟩,⟨⟨[69,114,114,111,114,69,120,99,101,112,116,105,111,110]⟩⟩,⟨⟨[77,101,116,104,111,100,69,114,114,111,114]⟩⟩,⟨⟨[65,109,98,105,103,117,111,117,115,69,114,114,111,114]⟩⟩,⟨⟨[85,110,100,101,102,86,97,114,69,114,114,111,114]⟩⟩,⟨⟨[66,111,117,110,100,115,69,114,114,111,114]⟩⟩,⟨⟨[65,98,115,116,114,97,99,116,65,114,114,97,121]⟩⟩,⟨⟨[65,114,114,97,121]⟩⟩,⟨⟨[83,117,98,65,114,114,97,121]⟩⟩,⟨⟨[65,98,115,116,114,97,99,116,82,97,110,103,101]⟩⟩,⟨⟨[85,110,105,116,82,97,110,103,101]⟩⟩,⟨⟨[83,116,101,112,82,97,110,103,101]⟩⟩,⟨⟨[82,101,102]⟩⟩,⟨⟨[82,97,116,105,111,110,97,108]⟩⟩]) [(.aD (.inst 461 [⟨⟨[110,97,109,101]⟩⟩,⟨⟨[112,97,114,97,109,115]⟩⟩,⟨⟨[115,117,112,101,114]⟩⟩,⟨⟨[105,115,95,97,98,115,116,114,97,99,116]⟩⟩,⟨⟨[105,115,95,109,117,116,97,98,108,101]⟩⟩,⟨⟨[102,105,101,108,100,115]⟩⟩]) [(.str ⟨⟨[65,110,121]⟩⟩),(.aD (.list 0) []),.none,(.bool .true),(.bool .false),(.aD (.list 0) [])]),(.aD (.inst 461 [⟨⟨[110,97,109,101]⟩⟩,⟨⟨[112,97,114,97,109,115]⟩⟩,⟨⟨[115,117,112,101,114]⟩⟩,⟨⟨[105,115,95,97,98,115,116,114,97,99,116]⟩⟩,⟨⟨[105,115,95,109,117,116,97,98,108,101]⟩⟩,⟨⟨[102,105,101,108,100,115]⟩⟩]) [(.str ⟨⟨[84,121,112,101]⟩⟩),(.aD (.list 0) []),(.tup [(.str ⟨⟨[110,97,109,101]⟩⟩),(.str ⟨⟨[65,110,121]⟩⟩),(.tup [])]),(.bool .true),(.bool .false),(.aD (.list 0) [])]),(.aD (.inst 461 [⟨⟨[110,97,109,101]⟩⟩,⟨⟨[112,97,114,97,109,115]⟩⟩,⟨⟨[115,117,112,101,114]⟩⟩,⟨⟨[105,115,95,97,98,115,116,114,97,99,116]⟩⟩,⟨⟨[105,115,95,109,117,116,97,98,108,101]⟩⟩,⟨⟨[102,105,101,108,100,115]⟩⟩]) [(.str ⟨⟨[70,117,110,99,116,105,111,110]⟩⟩),(.aD (.list 0) []),(.tup [(.str ⟨⟨[110,97,109,101]⟩⟩),(.str ⟨⟨[65,110,121]⟩⟩),(.tup [])]),(.bool .true),(.bool .false),(.aD (.list 0) [])]),(.aD (.inst 461 [⟨⟨[110,97,109,101]⟩⟩,⟨⟨[112,97,114,97,109,115]⟩⟩,⟨⟨[115,117,112,101,114]⟩⟩,⟨⟨[105,115,95,97,98,115,116,114,97,99,116]⟩⟩,⟨⟨[105,115,95,109,117,116,97,98,108,101]⟩⟩,⟨⟨[102,105,101,108,100,115]⟩⟩]) [(.str ⟨⟨[78,117,109,98,101,114]⟩⟩),(.aD (.list 0) []),(.tup [(.str ⟨⟨[110,97,109,101]⟩⟩),(.str ⟨⟨[65,110,121]⟩⟩),(.tup [])]),(.bool .true),(.bool .false),(.aD (.list 0) [])]),(.aD (.inst 461 [⟨⟨[110,97,109,101]⟩⟩,⟨⟨[112,97,114,97,109,115]⟩⟩,⟨⟨[115,117,112,101,114]⟩⟩,⟨⟨[105,115,95,97,98,115,116,114,97,99,116]⟩⟩,⟨⟨[105,115,95,109,117,116,97,98,108,101]⟩⟩,⟨⟨[102,105,101,108,100,115]⟩⟩]) [(.str ⟨⟨[65,98,115,116,114,97,99,116,67,104,97,114]⟩⟩),(.aD (.list 0) []),(.tup [(.str ⟨⟨[110,97,109,101]⟩⟩),(.str ⟨⟨[65,110,121]⟩⟩),(.tup [])]),(.bool .true),(.bool .false),(.aD (.list 0) [])]),(.aD (.inst 461 [⟨⟨[110,97,109,101]⟩⟩,⟨⟨[112,97,114,97,109,115]⟩⟩,⟨⟨[115,117,112,101,114]⟩⟩,⟨⟨[105,115,95,97,98,115,116,114,97,99,116]⟩⟩,⟨⟨[105,115,95,109,117,116,97,98,108,101]⟩⟩,⟨⟨[102,105,101,108,100,115]⟩⟩]) [(.str ⟨⟨[65,98,115,116,114,97,99,116,83,116,114,105,110,103]⟩⟩),(.aD (.list 0) []),(.tup [(.str ⟨⟨[110,97,109,101]⟩⟩),(.str ⟨⟨[65,110,121]⟩⟩),(.tup [])]),(.bool .true),(.bool .false),(.aD (.list 0) [])]),(.aD (.inst 461 [⟨⟨[110,97,109,101]⟩⟩,⟨⟨[112,97,114,97,109,115]⟩⟩,⟨⟨[115,117,112,101,114]⟩⟩,⟨⟨[105,115,95,97,98,115,116,114,97,99,116]⟩⟩,⟨⟨[105,115,95,109,117,116,97,98,108,101]⟩⟩,⟨⟨[102,105,101,108,100,115]⟩⟩]) [(.str ⟨⟨[69,120,99,101,112,116,105,111,110]⟩⟩),(.aD (.list 0) []),(.tup [(.str ⟨⟨[110,97,109,101]⟩⟩),(.str ⟨⟨[65,110,121]⟩⟩),(.tup [])]),(.bool .true),(.bool .false),(.aD (.list 0) [])]),(.aD (.inst 461 [⟨⟨[110,97,109,101]⟩⟩,⟨⟨[112,97,114,97,109,115]⟩⟩,⟨⟨[115,117,112,101,114]⟩⟩,⟨⟨[105,115,95,97,98,115,116,114,97,99,116]⟩⟩,⟨⟨[105,115,95,109,117,116,97,98,108,101]⟩⟩,⟨⟨[102,105,101,108,100,115]⟩⟩]) [(.str ⟨⟨[82,101,97,108]⟩⟩),(.aD (.list 0) []),(.tup [(.str ⟨⟨[110,97,109,101]⟩⟩),(.str ⟨⟨[78,117,109,98,101,114]⟩⟩),(.tup [])]),(.bool .true),(.bool .false),(.aD (.list 0) [])]),(.aD (.inst 461 [⟨⟨[110,97,109,101]⟩⟩,⟨⟨[112,97,114,97,109,115]⟩⟩,⟨⟨[115,117,112,101,114]⟩⟩,⟨⟨[105,115,95,97,98,115,116,114,97,99,116]⟩⟩,⟨⟨[105,115,95,109,117,116,97,98,108,101]⟩⟩,⟨⟨[102,105,101,108,100,115]⟩⟩]) [(.str ⟨⟨[73,110,116,101,103,101,114]⟩⟩),(.aD (.list 0) []),(.tup [(.str ⟨⟨[110,97,109,101]⟩⟩),(.str ⟨⟨[82,101,97,108]⟩⟩),(.tup [])]),(.bool .true),(.bool .false),(.aD (.list 0) [])]),(.aD (.inst 461 [⟨⟨[110,97,109,101]⟩⟩,⟨⟨[112,97,114,97,109,115]⟩⟩,⟨⟨[115,117,112,101,114]⟩⟩,⟨⟨[105,115,95,97,98,115,116,114,97,99,116]⟩⟩,⟨⟨[105,115,95,109,117,116,97,98,108,101]⟩⟩,⟨⟨[102,105,101,108,100,115]⟩⟩]) [(.str ⟨⟨[83,105,103,110,101,100]⟩⟩),(.aD (.list 0) []),(.tup [(.str ⟨⟨[110,97,109,101]⟩⟩),(.str ⟨⟨[73,110,116,101,103,101,114]⟩⟩),(.tup [])]),(.bool .true),(.bool .false),(.aD (.list 0) [])]),(.aD (.inst 461 [⟨⟨[110,97,109,101]⟩⟩,⟨⟨[112,97,114,97,109,115]⟩⟩,⟨⟨[115,117,112,101,114]⟩⟩,⟨⟨[105,115,95,97,98,115,116,114,97,99,116]⟩⟩,⟨⟨[105,115,95,109,117,116,97,98,108,101]⟩⟩,⟨⟨[102,105,101,108,100,115]⟩⟩]) [(.str ⟨⟨[85,110,115,105,103,110,101,100]⟩⟩),(.aD (.list 0) []),(.tup [(.str ⟨⟨[110,97,109,101]⟩⟩),(.str ⟨⟨[73,110,116,101,103,101,114]⟩⟩),(.tup [])]),(.bool .true),(.bool .false),(.aD (.list 0) [])]),(.aD (.inst 461 [⟨⟨[110,97,109,101]⟩⟩,⟨⟨[112,97,114,97,109,115]⟩⟩,⟨⟨[115,117,112,101,114]⟩⟩,⟨⟨[105,115,95,97,98,115,116,114,97,99,116]⟩⟩,⟨⟨[105,115,95,109,117,116,97,98,108,101]⟩⟩,⟨⟨[102,105,101,108,100,115]⟩⟩]) [(.str ⟨⟨[73,110,116,56]⟩⟩),(.aD (.list 0) []),(.tup [(.str ⟨⟨[110,97,109,101]⟩⟩),(.str ⟨⟨[83,105,103,110,101,100]⟩⟩),(.tup [])]),(.bool .false),(.bool .false),(.aD (.list 0) [])]),(.aD (.inst 461 [⟨⟨[110,97,109,101]⟩⟩,⟨⟨[112,97,114,97,109,115]⟩⟩,⟨⟨[115,117,112,101,114]⟩⟩,⟨⟨[105,115,95,97,98,115,116,114,97,99,116]⟩⟩,⟨⟨[105,115,95,109,117,116,97,98,108,101]⟩⟩,⟨⟨[102,105,101,108,100,115]⟩⟩]) [(.str ⟨⟨[73,110,116,49,54]⟩⟩),(.aD (.list 0) []),(.tup [(.str ⟨⟨[110,97,109,101]⟩⟩),(.str ⟨⟨[83,105,103,110,101,100]⟩⟩),(.tup [])]),(.bool .false),(.bool .false),(.aD (.list 0) [])]),(.aD (.inst 461 [⟨⟨[110,97,109,101]⟩⟩,⟨⟨[112,97,114,97,109,115]⟩⟩,⟨⟨[115,117,112,101,114]⟩⟩,⟨⟨[105,115,95,97,98,115,116,114,97,99,116]⟩⟩,⟨⟨[105,115,95,109,117,116,97,98,108,101]⟩⟩,⟨⟨[102,105,101,108,100,115]⟩⟩]) [(.str ⟨⟨[73,110,116,51,50]⟩⟩),(.aD (.list 0) []),(.tup [(.str ⟨⟨[110,97,109,101]⟩⟩),(.str ⟨⟨[83,105,103,110,101,100]⟩⟩),(.tup [])]),(.bool .false),(.bool .false),(.aD (.list 0) [])]),(.aD (.inst 461 [⟨⟨[110,97,109,101]⟩⟩,⟨⟨[112,97,114,97,109,115]⟩⟩,⟨⟨[115,117,112,101,114]⟩⟩,⟨⟨[105,115,95,97,98,115,116,114,97,99,116]⟩⟩,⟨⟨[105,115,95,109,117,116,97,98,108,101]⟩⟩,⟨⟨[102,105,101,108,100,115]⟩⟩]) [(.str ⟨⟨[73,110,116,54,52]⟩⟩),(.aD (.list 0) []),(.tup [(.str ⟨⟨[110,97,109,101]⟩⟩),(.str ⟨⟨[83,105,103,110,101,100]⟩⟩),(.tup [])]),(.bool .false),(.bool .false),(.aD (.list 0) [])]),(.aD (.inst 461 [⟨⟨[110,97,109,101]⟩⟩,⟨⟨[112,97,114,97,109,115]⟩⟩,⟨⟨[115,117,112,101,114]⟩⟩,⟨⟨[105,115,95,97,98,115,116,114,97,99,116]⟩⟩,⟨⟨[105,115,95,109,117,116,97,98,108,101]⟩⟩,⟨⟨[102,105,101,108,100,115]⟩⟩]) [(.str ⟨⟨[66,105,103,73,110,116]⟩⟩),(.aD (.list 0) []),(.tup [(.str ⟨⟨[110,97,109,101]⟩⟩),(.str ⟨⟨[83,105,103,110,101,100]⟩⟩),(.tup [])]),(.bool .false),(.bool .false),(.aD (.list 0) [])]),(.aD (.inst 461 [⟨⟨[110,97,109,101]⟩⟩,⟨⟨[112,97,114,97,109,115]⟩⟩,⟨⟨[115,117,112,101,114]⟩⟩,⟨⟨[105,115,95,97,98,115,116,114,97,99,116]⟩⟩,⟨⟨[105,115,95,109,117,116,97,98,108,101]⟩⟩,⟨⟨[102,105,101,108,100,115]⟩⟩]) [(.str ⟨⟨[85,73,110,116,56]⟩⟩),(.aD (.list 0) []),(.tup [(.str ⟨⟨[110,97,109,101]⟩⟩),(.str ⟨⟨[85,110,115,105,103,110,101,100]⟩⟩),(.tup [])]),(.bool .false),(.bool .false),(.aD (.list 0) [])]),(.aD (.inst 461 [⟨⟨[110,97,109,101]⟩⟩,⟨⟨[112,97,114,97,109,115]⟩⟩,⟨⟨[115,117,112,101,114]⟩⟩,⟨⟨[105,115,95,97,98,115,116,114,97,99,116]⟩⟩,⟨⟨[105,115,95,109,117,116,97,98,108,101]⟩⟩,⟨⟨[102,105,101,108,100,115]⟩⟩]) [(.str ⟨⟨[85,73,110,116,49,54]⟩⟩),(.aD (.list 0) []),(.tup [(.str ⟨⟨[110,97,109,101]⟩⟩),(.str ⟨⟨[85,110,115,105,103,110,101,100]⟩⟩),(.tup [])]),(.bool .false),(.bool .false),(.aD (.list 0) [])]),(.aD (.inst 461 [⟨⟨[110,97,109,101]⟩⟩,⟨⟨[112,97,114,97,109,115]⟩⟩,⟨⟨[115,117,112,101,114]⟩⟩,⟨⟨[105,115,95,97,98,115,116,114,97,99,116]⟩⟩,⟨⟨[105,115,95,109,117,116,97,98,108,101]⟩⟩,⟨⟨[102,105,101,108,100,115]⟩⟩]) [(.str ⟨⟨[85,73,110,116,51,50]⟩⟩),(.aD (.list 0) []),(.tup [(.str ⟨⟨[110,97,109,101]⟩⟩),(.str ⟨⟨[85,110,115,105,103,110,101,100]⟩⟩),(.tup [])]),(.bool .false),(.bool .false),(.aD (.list 0) [])]),(.aD (.inst 461 [⟨⟨[110,97,109,101]⟩⟩,⟨⟨[112,97,114,97,109,115]⟩⟩,⟨⟨[115,117,112,101,114]⟩⟩,⟨⟨[105,115,95,97,98,115,116,114,97,99,116]⟩⟩,⟨⟨[105,115,95,109,117,116,97,98,108,101]⟩⟩,⟨⟨[102,105,101,108,100,115]⟩⟩]) [(.str ⟨⟨[85,73,110,116,54,52]⟩⟩),(.aD (.list 0) []),(.tup [(.str ⟨⟨[110,97,109,101]⟩⟩),(.str ⟨⟨[85,110,115,105,103,110,101,100]⟩⟩),(.tup [])]),(.bool .false),(.bool .false),(.aD (.list 0) [])]),(.aD (.inst 461 [⟨⟨[110,97,109,101]⟩⟩,⟨⟨[112,97,114,97,109,115]⟩⟩,⟨⟨[115,117,112,101,114]⟩⟩,⟨⟨[105,115,95,97,98,115,116,114,97,99,116]⟩⟩,⟨⟨[105,115,95,109,117,116,97,98,108,101]⟩⟩,⟨⟨[102,105,101,108,100,115]⟩⟩]) [(.str ⟨⟨[66,111,111,108]⟩⟩),(.aD (.list 0) []),(.tup [(.str ⟨⟨[110,97,109,101]⟩⟩),(.str ⟨⟨[73,110,116,101,103,101,114]⟩⟩),(.tup [])]),(.bool .false),(.bool .false),(.aD (.list 0) [])]),(.aD (.inst 461 [⟨⟨[110,97,109,101]⟩⟩,⟨⟨[112,97,114,97,109,115]⟩⟩,⟨⟨[115,117,112,101,114]⟩⟩,⟨⟨[105,115,95,97,98,115,116,114,97,99,116]⟩⟩,⟨⟨[105,115,95,109,117,116,97,98,108,101]⟩⟩,⟨⟨[102,105,101,108,100,115]⟩⟩]) [(.str ⟨⟨[67,104,97,114]⟩⟩),(.aD (.list 0) []),(.tup [(.str ⟨⟨[110,97,109,101]⟩⟩),(.str ⟨⟨[65,98,115,116,114,97,99,116,67,104,97,114]⟩⟩),(.tup [])]),(.bool .false),(.bool .false),(.aD (.list 0) [])]),(.aD (.inst 461 [⟨⟨[110,97,109,101]⟩⟩,⟨⟨[112,97,114,97,109,115]⟩⟩,⟨⟨[115,117,112,101,114]⟩⟩,⟨⟨[105,115,95,97,98,115,116,114,97,99,116]⟩⟩,⟨⟨[105,115,95,109,117,116,97,98,108,101]⟩⟩,⟨⟨[102,105,101,108,100,115]⟩⟩]) [(.str ⟨⟨[83,116,114,105,110,103]⟩⟩),(.aD (.list 0) []),(.tup [(.str ⟨⟨[110,97,109,101]⟩⟩),(.str ⟨⟨[65,98,115,116,114,97,99,116,83,116,114,105,110,103]⟩⟩),(.tup [])]),(.bool .false),(.bool .false),(.aD (.list 0) [])]),(.aD (.inst 461 [⟨⟨[110,97,109,101]⟩⟩,⟨⟨[112,97,114,97,109,115]⟩⟩,⟨⟨[115,117,112,101,114]⟩⟩,⟨⟨[105,115,95,97,98,115,116,114,97,99,116]⟩⟩,⟨⟨[105,115,95,109,117,116,97,98,108,101]⟩⟩,⟨⟨[102,105,101,108,100,115]⟩⟩]) [(.str ⟨⟨[83,121,109,98,111,108]⟩⟩),(.aD (.list 0) []),(.tup [(.str ⟨⟨[110,97,109,101]⟩⟩),(.str ⟨⟨[65,110,121]⟩⟩),(.tup [])]),(.bool .false),(.bool .false),(.aD (.list 0) [])]),(.aD (.inst 461 [⟨⟨[110,97,109,101]⟩⟩,⟨⟨[112,97,114,97,109,115]⟩⟩,⟨⟨[115,117,112,101,114]⟩⟩,⟨⟨[105,115,95,97,98,115,116,114,97,99,116]⟩⟩,⟨⟨[105,115,95,109,117,116,97,98,108,101]⟩⟩,⟨⟨[102,105,101,108,100,115]⟩⟩]) [(.str ⟨⟨[78,111,116,104,105,110,103]⟩⟩),(.aD (.list 0) []),(.tup [(.str ⟨⟨[110,97,109,101]⟩⟩),(.str ⟨⟨[65,110,121]⟩⟩),(.tup [])]),(.bool .false),(.bool .false),(.aD (.list 0) [])]),(.aD (.inst 461 [⟨⟨[110,97,109,101]⟩⟩,⟨⟨[112,97,114,97,109,115]⟩⟩,⟨⟨[115,117,112,101,114]⟩⟩,⟨⟨[105,115,95,97,98,115,116,114,97,99,116]⟩⟩,⟨⟨[105,115,95,109,117,116,97,98,108,101]⟩⟩,⟨⟨[102,105,101,108,100,115]⟩⟩]) [(.str ⟨⟨[69,120,112,114]⟩⟩),(.aD (.list 0) []),(.tup [(.str ⟨⟨[110,97,109,101]⟩⟩),(.str ⟨⟨[65,110,121]⟩⟩),(.tup [])]),(.bool .false),(.bool .true),(.aD (.list 2) [(.tup [(.str ⟨⟨[104,101,97,100]⟩⟩),(.tup [(.str ⟨⟨[110,97,109,101]⟩⟩),(.str ⟨⟨[83,121,109,98,111,108]⟩⟩),(.tup [])])]),(.tup [(.str ⟨⟨[97,114,103,115]⟩⟩),(.tup [(.str ⟨⟨[110,97,109,101]⟩⟩),(.str ⟨⟨[65,110,121]⟩⟩),(.tup [])])])])]),(.aD (.inst 461 [⟨⟨[110,97,109,101]⟩⟩,⟨⟨[112,97,114,97,109,115]⟩⟩,⟨⟨[115,117,112,101,114]⟩⟩,⟨⟨[105,115,95,97,98,115,116,114,97,99,116]⟩⟩,⟨⟨[105,115,95,109,117,116,97,98,108,101]⟩⟩,⟨⟨[102,105,101,108,100,115]⟩⟩]) [(.str ⟨⟨[68,105,118,105,100,101,69,114,114,111,114]⟩⟩),(.aD (.list 0) []),(.tup [(.str ⟨⟨[110,97,109,101]⟩⟩),(.str ⟨⟨[69,120,99,101,112,116,105,111,110]⟩⟩),(.tup [])]),(.bool .false),(.bool .false),(.aD (.list 0) [])]),(.aD (.inst 461 [⟨⟨[110,97,109,101]⟩⟩,⟨⟨[112,97,114,97,109,115]⟩⟩,⟨⟨[115,117,112,101,114]⟩⟩,⟨⟨[105,115,95,97,98,115,116,114,97,99,116]⟩⟩,⟨⟨[105,115,95,109,117,116,97,98,108,101]⟩⟩,⟨⟨[102,105,101,108,100,115]⟩⟩]) [(.str ⟨⟨[73,110,101,120,97,99,116,69,114,114,111,114]⟩⟩),(.aD (.list 0) []),(.tup [(.str ⟨⟨[110,97,109,101]⟩⟩),(.str ⟨⟨[69,120,99,101,112,116,105,111,110]⟩⟩),(.tup [])]),(.bool .false),(.bool .false),(.aD (.list 0) [])]),(.aD (.inst 461 [⟨⟨[110,97,109,101]⟩⟩,⟨⟨[112,97,114,97,109,115]⟩⟩,⟨⟨[115,117,112,101,114]⟩⟩,⟨⟨[105,115,95,97,98,115,116,114,97,99,116]⟩⟩,⟨⟨[105,115,95,109,117,116,97,98,108,101]⟩⟩,⟨⟨[102,105,101,108,100,115]⟩⟩]) [(.str ⟨⟨[84,121,112,101,69,114,114,111,114]⟩⟩),(.aD (.list 0) []),(.tup [(.str ⟨⟨[110,97,109,101]⟩⟩),(.str ⟨⟨[69,120,99,101,112,116,105,111,110]⟩⟩),(.tup [])]),(.bool .false),(.bool .false),(.aD (.list 0) [])]),(.aD (.inst 461 [⟨⟨[110,97,109,101]⟩⟩,⟨⟨[112,97,114,97,109,115]⟩⟩,⟨⟨[115,117,112,101,114]⟩⟩,⟨⟨[105,115,95,97,98,115,116,114,97,99,116]⟩⟩,⟨⟨[105,115,95,109,117,116,97,98,108,101]⟩⟩,⟨⟨[102,105,101,108,100,115]⟩⟩]) [(.str ⟨⟨[83,116,97,99,107,79,118,101,114,102,108,111,119,69,114,114,111,114]⟩⟩),(.aD (.list 0) []),(.tup [(.str ⟨⟨[110,97,109,101]⟩⟩),(.str ⟨⟨[69,120,99,101,112,116,105,111,110]⟩⟩),(.tup [])]),(.bool .false),(.bool .false),(.aD (.list 0) [])]),(.aD (.inst 461 [⟨⟨[110,97,109,101]⟩⟩,⟨⟨[112,97,114,97,109,115]⟩⟩,⟨⟨[115,117,112,101,114]⟩⟩,⟨⟨[105,115,95,97,98,115,116,114,97,99,116]⟩⟩,⟨⟨[105,115,95,109,117,116,97,98,108,101]⟩⟩,⟨⟨[102,105,101,108,100,115]⟩⟩]) [(.str ⟨⟨[65,114,103,117,109,101,110,116,69,114,114,111,114]⟩⟩),(.aD (.list 0) []),(.tup [(.str ⟨⟨[110,97,109,101]⟩⟩),(.str ⟨⟨[69,120,99,101,112,116,105,111,110]⟩⟩),(.tup [])]),(.bool .false),(.bool .false),(.aD (.list 1) [(.tup [(.str ⟨⟨[109,115,103]⟩⟩),(.tup [(.str ⟨⟨[110,97,109,101]⟩⟩),(.str ⟨⟨[65,110,121]⟩⟩),(.tup [])])])])]),(.aD (.inst 461 [⟨⟨[110,97,109,101]⟩⟩,⟨⟨[112,97,114,97,109,115]⟩⟩,⟨⟨[115,117,112,101,114]⟩⟩,⟨⟨[105,115,95,97,98,115,116,114,97,99,116]⟩⟩,⟨⟨[105,115,95,109,117,116,97,98,108,101]⟩⟩,⟨⟨[102,105,101,108,100,115]⟩⟩]) [(.str ⟨⟨[79,118,101,114,102,108,111,119,69,114,114,111,114]⟩⟩),(.aD (.list 0) []),(.tup [(.str ⟨⟨[110,97,109,101]⟩⟩),(.str ⟨⟨[69,120,99,101,112,116,105,111,110]⟩⟩),(.tup [])]),(.bool .false),(.bool .false),(.aD (.list 1) [(.tup [(.str ⟨⟨[109,115,103]⟩⟩),(.tup [(.str ⟨⟨[110,97,109,101]⟩⟩),(.str ⟨⟨[65,110,121]⟩⟩),(.tup [])])])])]),(.aD (.inst 461 [⟨⟨[110,97,109,101]⟩⟩,⟨⟨[112,97,114,97,109,115]⟩⟩,⟨⟨[115,117,112,101,114]⟩⟩,⟨⟨[105,115,95,97,98,115,116,114,97,99,116]⟩⟩,⟨⟨[105,115,95,109,117,116,97,98,108,101]⟩⟩,⟨⟨[102,105,101,108,100,115]⟩⟩]) [(.str ⟨⟨[68,105,109,101,110,115,105,111,110,77,105,115,109,97,116,99,104]⟩⟩),(.aD (.list 0) []),(.tup [(.str ⟨⟨[110,97,109,101]⟩⟩),(.str ⟨⟨[69,120,99,101,112,116,105,111,110]⟩⟩),(.tup [])]),(.bool .false),(.bool .false),(.aD (.list 1) [(.tup [(.str ⟨⟨[109,115,103]⟩⟩),(.tup [(.str ⟨⟨[110,97,109,101]⟩⟩),(.str ⟨⟨[65,110,121]⟩⟩),(.tup [])])])])]),(.aD (.inst 461 [⟨⟨[110,97,109,101]⟩⟩,⟨⟨[112,97,114,97,109,115]⟩⟩,⟨⟨[115,117,112,101,114]⟩⟩,⟨⟨[105,115,95,97,98,115,116,114,97,99,116]⟩⟩,⟨⟨[105,115,95,109,117,116,97,98,108,101]⟩⟩,⟨⟨[102,105,101,108,100,115]⟩⟩]) [(.str ⟨⟨[69,114,114,111,114,69,120,99,101,112,116,105,111,110]⟩⟩),(.aD (.list 0) []),(.tup [(.str ⟨⟨[110,97,109,101]⟩⟩),(.str ⟨⟨[69,120,99,101,112,116,105,111,110]⟩⟩),(.tup [])]),(.bool .false),(.bool .false),(.aD (.list 1) [(.tup [(.str ⟨⟨[109,115,103]⟩⟩),(.tup [(.str ⟨⟨[110,97,109,101]⟩⟩),(.str ⟨⟨[65,110,121]⟩⟩),(.tup [])])])])]),(.aD (.inst 461 [⟨⟨[110,97,109,101]⟩⟩,⟨⟨[112,97,114,97,109,115]⟩⟩,⟨⟨[115,117,112,101,114]⟩⟩,⟨⟨[105,115,95,97,98,115,116,114,97,99,116]⟩⟩,⟨⟨[105,115,95,109,117,116,97,98,108,101]⟩⟩,⟨⟨[102,105,101,108,100,115]⟩⟩]) [(.str ⟨⟨[77,101,116,104,111,100,69,114,114,111,114]⟩⟩),(.aD (.list 0) []),(.tup [(.str ⟨⟨[110,97,109,101]⟩⟩),(.str ⟨⟨[69,120,99,101,112,116,105,111,110]⟩⟩),(.tup [])]),(.bool .false),(.bool .false),(.aD (.list 2) [(.tup [(.str ⟨⟨[102]⟩⟩),(.tup [(.str ⟨⟨[110,97,109,101]⟩⟩),(.str ⟨⟨[65,110,121]⟩⟩),(.tup [])])]),(.tup [(.str ⟨⟨[97,114,103,115]⟩⟩),(.tup [(.str ⟨⟨[110,97,109,101]⟩⟩),(.str ⟨⟨[65,110,121]⟩⟩),(.tup [])])])])]),(.aD (.inst 461 [⟨⟨[110,97,109,101]⟩⟩,⟨⟨[112,97,114,97,109,115]⟩⟩,⟨⟨[115,117,112,101,114]⟩⟩,⟨⟨[105,115,95,97,98,115,116,114,97,99,116]⟩⟩,⟨⟨[105,115,95,109,117,116,97,98,108,101]⟩⟩,⟨⟨[102,105,101,108,100,115]⟩⟩]) [(.str ⟨⟨[65,109,98,105,103,117,111,117,115,69,114,114,111,114]⟩⟩),(.aD (.list 0) []),(.tup [(.str ⟨⟨[110,97,109,101]⟩⟩),(.str ⟨⟨[69,120,99,101,112,116,105,111,110]⟩⟩),(.tup [])]),(.bool .false),(.bool .false),(.aD (.list 2) [(.tup [(.str ⟨⟨[102]⟩⟩),(.tup [(.str ⟨⟨[110,97,109,101]⟩⟩),(.str ⟨⟨[65,110,121]⟩⟩),(.tup [])])]),(.tup [(.str ⟨⟨[97,114,103,115]⟩⟩),(.tup [(.str ⟨⟨[110,97,109,101]⟩⟩),(.str ⟨⟨[65,110,121]⟩⟩),(.tup [])])])])]),(.aD (.inst 461 [⟨⟨[110,97,109,101]⟩⟩,⟨⟨[112,97,114,97,109,115]⟩⟩,⟨⟨[115,117,112,101,114]⟩⟩,⟨⟨[105,115,95,97,98,115,116,114,97,99,116]⟩⟩,⟨⟨[105,115,95,109,117,116,97,98,108,101]⟩⟩,⟨⟨[102,105,101,108,100,115]⟩⟩]) [(.str ⟨⟨[85,110,100,101,102,86,97,114,69,114,114,111,114]⟩⟩),(.aD (.list 0) []),(.tup [(.str ⟨⟨[110,97,109,101]⟩⟩),(.str ⟨⟨[69,120,99,101,112,116,105,111,110]⟩⟩),(.tup [])]),(.bool .false),(.bool .false),(.aD (.list 1) [(.tup [(.str ⟨⟨[118,97,114]⟩⟩),(.tup [(.str ⟨⟨[110,97,109,101]⟩⟩),(.str ⟨⟨[65,110,121]⟩⟩),(.tup [])])])])]),(.aD (.inst 461 [⟨⟨[110,97,109,101]⟩⟩,⟨⟨[112,97,114,97,109,115]⟩⟩,⟨⟨[115,117,112,101,114]⟩⟩,⟨⟨[105,115,95,97,98,115,116,114,97,99,116]⟩⟩,⟨⟨[105,115,95,109,117,116,97,98,108,101]⟩⟩,⟨⟨[102,105,101,108,100,115]⟩⟩]) [(.str ⟨⟨[66,111,117,110,100,115,69,114,114,111,114]⟩⟩),(.aD (.list 0) []),(.tup [(.str ⟨⟨[110,97,109,101]⟩⟩),(.str ⟨⟨[69,120,99,101,112,116,105,111,110]⟩⟩),(.tup [])]),(.bool .false),(.bool .false),(.aD (.list 2) [(.tup [(.str ⟨⟨[97]⟩⟩),(.tup [(.str ⟨⟨[110,97,109,101]⟩⟩),(.str ⟨⟨[65,110,121]⟩⟩),(.tup [])])]),(.tup [(.str ⟨⟨[105]⟩⟩),(.tup [(.str ⟨⟨[110,97,109,101]⟩⟩),(.str ⟨⟨[65,110,121]⟩⟩),(.tup [])])])])]),(.aD (.inst 461 [⟨⟨[110,97,109,101]⟩⟩,⟨⟨[112,97,114,97,109,115]⟩⟩,⟨⟨[115,117,112,101,114]⟩⟩,⟨⟨[105,115,95,97,98,115,116,114,97,99,116]⟩⟩,⟨⟨[105,115,95,109,117,116,97,98,108,101]⟩⟩,⟨⟨[102,105,101,108,100,115]⟩⟩]) [(.str ⟨⟨[65,98,115,116,114,97,99,116,65,114,114,97,121]⟩⟩),(.aD (.list 2) [(.tup [(.str ⟨⟨[84,46,48]⟩⟩),(.tup [(.str ⟨⟨[98,111,116,116,111,109]⟩⟩)]),(.tup [(.str ⟨⟨[110,97,109,101]⟩⟩),(.str ⟨⟨[65,110,121]⟩⟩),(.tup [])])]),(.tup [(.str ⟨⟨[78,46,48]⟩⟩),(.tup [(.str ⟨⟨[98,111,116,116,111,109]⟩⟩)]),(.tup [(.str ⟨⟨[110,97,109,101]⟩⟩),(.str ⟨⟨[65,110,121]⟩⟩),(.tup [])])])]),(.tup [(.str ⟨⟨[110,97,109,101]⟩⟩),(.str ⟨⟨[65,110,121]⟩⟩),(.tup [])]),(.bool .true),(.bool .false),(.aD (.list 0) [])]),(.aD (.inst 461 [⟨⟨[110,97,109,101]⟩⟩,⟨⟨[112,97,114,97,109,115]⟩⟩,⟨⟨[115,117,112,101,114]⟩⟩,⟨⟨[105,115,95,97,98,115,116,114,97,99,116]⟩⟩,⟨⟨[105,115,95,109,117,116,97,98,108,101]⟩⟩,⟨⟨[102,105,101,108,100,115]⟩⟩]) [(.str ⟨⟨[65,114,114,97,121]⟩⟩),(.aD (.list 2) [(.tup [(.str ⟨⟨[84,46,48]⟩⟩),(.tup [(.str ⟨⟨[98,111,116,116,111,109]⟩⟩)]),(.tup [(.str ⟨⟨[110,97,109,101]⟩⟩),(.str ⟨⟨[65,110,121]⟩⟩),(.tup [])])]),(.tup [(.str ⟨⟨[78,46,48]⟩⟩),(.tup [(.str ⟨⟨[98,111,116,116,111,109]⟩⟩)]),(.tup [(.str ⟨⟨[110,97,109,101]⟩⟩),(.str ⟨⟨[65,110,121]⟩⟩),(.tup [])])])]),(.tup [(.str ⟨⟨[110,97,109,101]⟩⟩),(.str ⟨⟨[65,98,115,116,114,97,99,116,65,114,114,97,121]⟩⟩),(.tup [(.tup [(.str ⟨⟨[118,97,114]⟩⟩),(.str ⟨⟨[84,46,48]⟩⟩)]),(.tup [(.str ⟨⟨[118,97,114]⟩⟩),(.str ⟨⟨[78,46,48]⟩⟩)])])]),(.bool .false),(.bool .true),(.aD (.list 0) [])]),(.aD (.inst 461 [⟨⟨[110,97,109,101]⟩⟩,⟨⟨[112,97,114,97,109,115]⟩⟩,⟨⟨[115,117,112,101,114]⟩⟩,⟨⟨[105,115,95,97,98,115,116,114,97,99,116]⟩⟩,⟨⟨[105,115,95,109,117,116,97,98,108,101]⟩⟩,⟨⟨[102,105,101,108,100,115]⟩⟩]) [(.str ⟨⟨[83,117,98,65,114,114,97,121]⟩⟩),(.aD (.list 2) [(.tup [(.str ⟨⟨[84,46,48]⟩⟩),(.tup [(.str ⟨⟨[98,111,116,116,111,109]⟩⟩)]),(.tup [(.str ⟨⟨[110,97,109,101]⟩⟩),(.str ⟨⟨[65,110,121]⟩⟩),(.tup [])])]),(.tup [(.str ⟨⟨[78,46,48]⟩⟩),(.tup [(.str ⟨⟨[98,111,116,116,111,109]⟩⟩)]),(.tup [(.str ⟨⟨[110,97,109,101]⟩⟩),(.str ⟨⟨[65,110,121]⟩⟩),(.tup [])])])]),(.tup [(.str ⟨⟨[110,97,109,101]⟩⟩),(.str ⟨⟨[65,98,115,116,114,97,99,116,65,114,114,97,121]⟩⟩),(.tup [(.tup [(.str ⟨⟨[118,97,114]⟩⟩),(.str ⟨⟨[84,46,48]⟩⟩)]),(.tup [(.str ⟨⟨[118,97,114]⟩⟩),(.str ⟨⟨[78,46,48]⟩⟩)])])]),(.bool .false),(.bool .true),(.aD (.list 0) [])]),(.aD (.inst 461 [⟨⟨[110,97,109,101]⟩⟩,⟨⟨[112,97,114,97,109,115]⟩⟩,⟨⟨[115,117,112,101,114]⟩⟩,⟨⟨[105,115,95,97,98,115,116,114,97,99,116]⟩⟩,⟨⟨[105,115,95,109,117,116,97,98,108,101]⟩⟩,⟨⟨[102,105,101,108,100,115]⟩⟩]) [(.str ⟨⟨[65,98,115,116,114,97,99,116,82,97,110,103,101]⟩⟩),(.aD (.list 1) [(.tup [(.str ⟨⟨[84,46,48]⟩⟩),(.tup [(.str ⟨⟨[98,111,116,116,111,109]⟩⟩)]),(.tup [(.str ⟨⟨[110,97,109,101]⟩⟩),(.str ⟨⟨[65,110,121]⟩⟩),(.tup [])])])]),(.tup [(.str ⟨⟨[110,97,109,101]⟩⟩),(.str ⟨⟨[65,98,115,116,114,97,99,116,65,114,114,97,121]⟩⟩),(.tup [(.tup [(.str ⟨⟨[118,97,114]⟩⟩),(.str ⟨⟨[84,46,48]⟩⟩)]),(.tup [(.str ⟨⟨[110]⟩⟩),(.int (.ofNat 1))])])]),(.bool .true),(.bool .false),(.aD (.list 0) [])]),(.aD (.inst 461 [⟨⟨[110,97,109,101]⟩⟩,⟨⟨[112,97,114,97,109,115]⟩⟩,⟨⟨[115,117,112,101,114]⟩⟩,⟨⟨[105,115,95,97,98,115,116,114,97,99,116]⟩⟩,⟨⟨[105,115,95,109,117,116,97,98,108,101]⟩⟩,⟨⟨[102,105,101,108,100,115]⟩⟩]) [(.str ⟨⟨[85,110,105,116,82,97,110,103,101]⟩⟩),(.aD (.list 1) [(.tup [(.str ⟨⟨[84,46,48]⟩⟩),(.tup [(.str ⟨⟨[98,111,116,116,111,109]⟩⟩)]),(.tup [(.str ⟨⟨[110,97,109,101]⟩⟩),(.str ⟨⟨[65,110,121]⟩⟩),(.tup [])])])]),(.tup [(.str ⟨⟨[110,97,109,101]⟩⟩),(.str ⟨⟨[65,98,115,116,114,97,99,116,82,97,110,103,101]⟩⟩),(.tup [(.tup [(.str ⟨⟨[118,97,114]⟩⟩),(.str ⟨⟨[84,46,48]⟩⟩)])])]),(.bool .false),(.bool .false),(.aD (.list 2) [(.tup [(.str ⟨⟨[115,116,97,114,116]⟩⟩),(.tup [(.str ⟨⟨[118,97,114]⟩⟩),(.str ⟨⟨[84,46,48]⟩⟩)])]),(.tup [(.str ⟨⟨[115,116,111,112]⟩⟩),(.tup [(.str ⟨⟨[118,97,114]⟩⟩),(.str ⟨⟨[84,46,48]⟩⟩)])])])]),(.aD (.inst 461 [⟨⟨[110,97,109,101]⟩⟩,⟨⟨[112,97,114,97,109,115]⟩⟩,⟨⟨[115,117,112,101,114]⟩⟩,⟨⟨[105,115,95,97,98,115,116,114,97,99,116]⟩⟩,⟨⟨[105,115,95,109,117,116,97,98,108,101]⟩⟩,⟨⟨[102,105,101,108,100,115]⟩⟩]) [(.str ⟨⟨[83,116,101,112,82,97,110,103,101]⟩⟩),(.aD (.list 1) [(.tup [(.str ⟨⟨[84,46,48]⟩⟩),(.tup [(.str ⟨⟨[98,111,116,116,111,109]⟩⟩)]),(.tup [(.str ⟨⟨[110,97,109,101]⟩⟩),(.str ⟨⟨[65,110,121]⟩⟩),(.tup [])])])]),(.tup [(.str ⟨⟨[110,97,109,101]⟩⟩),(.str ⟨⟨[65,98,115,116,114,97,99,116,82,97,110,103,101]⟩⟩),(.tup [(.tup [(.str ⟨⟨[118,97,114]⟩⟩),(.str ⟨⟨[84,46,48]⟩⟩)])])]),(.bool .false),(.bool .false),(.aD (.list 3) [(.tup [(.str ⟨⟨[115,116,97,114,116]⟩⟩),(.tup [(.str ⟨⟨[118,97,114]⟩⟩),(.str ⟨⟨[84,46,48]⟩⟩)])]),(.tup [(.str ⟨⟨[115,116,101,112]⟩⟩),(.tup [(.str ⟨⟨[118,97,114]⟩⟩),(.str ⟨⟨[84,46,48]⟩⟩)])]),(.tup [(.str ⟨⟨[115,116,111,112]⟩⟩),(.tup [(.str ⟨⟨[118,97,114]⟩⟩),(.str ⟨⟨[84,46,48]⟩⟩)])])])]),(.aD (.inst 461 [⟨⟨[110,97,109,101]⟩⟩,⟨⟨[112,97,114,97,109,115]⟩⟩,⟨⟨[115,117,112,101,114]⟩⟩,⟨⟨[105,115,95,97,98,115,116,114,97,99,116]⟩⟩,⟨⟨[105,115,95,109,117,116,97,98,108,101]⟩⟩,⟨⟨[102,105,101,108,100,115]⟩⟩]) [(.str ⟨⟨[82,101,102]⟩⟩),(.aD (.list 1) [(.tup [(.str ⟨⟨[84,46,48]⟩⟩),(.tup [(.str ⟨⟨[98,111,116,116,111,109]⟩⟩)]),(.tup [(.str ⟨⟨[110,97,109,101]⟩⟩),(.str ⟨⟨[65,110,121]⟩⟩),(.tup [])])])]),(.tup [(.str ⟨⟨[110,97,109,101]⟩⟩),(.str ⟨⟨[65,110,121]⟩⟩),(.tup [])]),(.bool .false),(.bool .true),(.aD (.list 1) [(.tup [(.str ⟨⟨[120]⟩⟩),(.tup [(.str ⟨⟨[118,97,114]⟩⟩),(.str ⟨⟨[84,46,48]⟩⟩)])])])]),(.aD (.inst 461 [⟨⟨[110,97,109,101]⟩⟩,⟨⟨[112,97,114,97,109,115]⟩⟩,⟨⟨[115,117,112,101,114]⟩⟩,⟨⟨[105,115,95,97,98,115,116,114,97,99,116]⟩⟩,⟨⟨[105,115,95,109,117,116,97,98,108,101]⟩⟩,⟨⟨[102,105,101,108,100,115]⟩⟩]) [(.str ⟨⟨[82,97,116,105,111,110,97,108]⟩⟩),(.aD (.list 1) [(.tup [(.str ⟨⟨[84,46,48]⟩⟩),(.tup [(.str ⟨⟨[98,111,116,116,111,109]⟩⟩)]),(.tup [(.str ⟨⟨[110,97,109,101]⟩⟩),(.str ⟨⟨[73,110,116,101,103,101,114]⟩⟩),(.tup [])])])]),(.tup [(.str ⟨⟨[110,97,109,101]⟩⟩),(.str ⟨⟨[82,101,97,108]⟩⟩),(.tup [])]),(.bool .false),(.bool .false),(.aD (.list 2) [(.tup [(.str ⟨⟨[110,117,109]⟩⟩),(.tup [(.str ⟨⟨[118,97,114]⟩⟩),(.str ⟨⟨[84,46,48]⟩⟩)])]),(.tup [(.str ⟨⟨[100,101,110]⟩⟩),(.tup [(.str ⟨⟨[118,97,114]⟩⟩),(.str ⟨⟨[84,46,48]⟩⟩)])])])])])])
noncomputable def Pq:a_:=RI
noncomputable def ke(i:H):aa D:=@bN (λ_=>aa D) .none (some aH) (bA i 0)
noncomputable def cz:bQ:=WP Pq (λ_ _ _=>.none) (λ_=>.none) (λ_ _=>.none)
noncomputable def WS:bQ:=gp cz (λ_ _ _=>.none) ke (λ_ _=>.none) 0
noncomputable def cN(B:G H):D:=.str ⟨⟨B⟩⟩
noncomputable def Ot:D:=.str ⟨⟨[110,97,109,101]⟩⟩
noncomputable def Bz:D:=.str ⟨⟨[118,97,114]⟩⟩
noncomputable def acV:D:=.str ⟨⟨[116,121,112,101,111,102]⟩⟩
noncomputable def du:D:=.str ⟨⟨[116,117,112,108,101]⟩⟩
noncomputable def acW:D:=.str ⟨⟨[117,110,105,111,110]⟩⟩
noncomputable def Ht:D:=.str ⟨⟨[115,117,98]⟩⟩
noncomputable def acU:D:=.str ⟨⟨[115,97,109,101]⟩⟩
noncomputable def sN:D:=.str ⟨⟨[110]⟩⟩
noncomputable def q8(B:G H):D:=.tup [Ot,.str ⟨⟨B⟩⟩,.tup []]
noncomputable def aC:D:=q8 [73,110,116,54,52]
noncomputable def bF:D:=q8 [73,110,116,56]
noncomputable def j0:D:=q8 [85,73,110,116,56]
noncomputable def aF:D:=q8 [83,116,114,105,110,103]
noncomputable def ai:D:=q8 [66,111,111,108]
noncomputable def ak:D:=q8 [73,110,116,101,103,101,114]
noncomputable def aK:D:=q8 [82,101,97,108]
noncomputable def kO:D:=q8 [65,110,121]
noncomputable def af:D:=.tup [acW,.tup [ai,aC]]
noncomputable def vT:D:=.tup [Bz,.str eE]
noncomputable def vN:D:=.tup [Bz,.str eD]
noncomputable def num(i:H):D:=.tup [sN,.int (.ofNat i)]
noncomputable def arr(k r:D):D:=.tup [Ot,cN [65,114,114,97,121],.tup [k,r]]
noncomputable def gz(k:D):D:=.tup [acV,k]
noncomputable def gP(a b:D):D:=.tup [du,.tup [a,b],.none]
noncomputable def sub(a b:D):D:=.tup [Ht,a,b]
noncomputable def same(a b:D):D:=.tup [acU,a,b]
noncomputable def Lu:G ar:=[⟨⟨[105,115,95,97,115,107,101,100]⟩⟩,⟨⟨[111,114,100,101,114]⟩⟩,⟨⟨[108,111,119,101,114,115]⟩⟩,⟨⟨[117,112,112,101,114,115]⟩⟩,⟨⟨[105,115,95,100,105,97,103,111,110,97,108]⟩⟩]
noncomputable def side(E:ba)(lo up:G D)(d:ah):D:=.aD (.inst 129 Lu) [.bool true,.int E,.tup lo,.tup up,.bool d]
noncomputable def gx:G (ar×dc):=match WS.fn 277 with
 |some F=>F.sc
 |.none=>[]
noncomputable def dK:JH×G en:=match WS.fn 277 with
 |some F=>match F.body with
  |[]=>(.Constant .none 0 ⟨0,0,0,0⟩,[])
  |s::_=>match s with
   |.While t b _ _=>(t,b)
   |_=>(.Constant .none 0 ⟨0,0,0,0⟩,[])
 |.none=>(.Constant .none 0 ⟨0,0,0,0⟩,[])
noncomputable def jH:G en:=match cz.fn 382 with
 |some F=>F.body
 |.none=>[]
noncomputable def i9:G (ar×dc):=match cz.fn 382 with
 |some F=>F.sc
 |.none=>[]
noncomputable def rl:D:=cN [97,108,108]
noncomputable def rn:D:=.tup [cN [98,111,116,116,111,109]]
noncomputable def nQ:D:=cN [84,46,49]
noncomputable def lS:D:=cN [78,46,50]
noncomputable def yR:D:=.tup [Bz,nQ]
noncomputable def PE:D:=.tup [Bz,lS]
noncomputable def cD(t:D):D:=.tup [rl,lS,rn,kO,t]
noncomputable def dk(up t:D):D:=.tup [rl,nQ,rn,up,t]
noncomputable def tA:G en:=match cz.fn 277 with
 |some F=>match F.body with
  |[]=>[]
  |_::r=>r
 |.none=>[]
noncomputable def wpS:Pos:=match cz.fn 277 with
 |some F=>match F.body with
  |[]=>⟨0,0,0,0⟩
  |s::_=>match s with
   |.While _ _ _ p=>p
   |_=>⟨0,0,0,0⟩
 |.none=>⟨0,0,0,0⟩
noncomputable def HA:D:=.aD (.inst 129 Lu) [.bool true,.int 2,.any,.any,.bool false]
noncomputable def Pg(i:H):aa D:=@bN (λ_=>aa D) (@bN (λ_=>aa D) .none (some HA) (bA i 2)) (some aH) (bA i 0)
noncomputable def WE:bQ:=gp cz (λ_ _ _=>.none) Pg (λ_ _=>.none) 0
noncomputable def tn(o:MH):aa Lk:=turn WS 60 gx dK.1 dK.2 o
noncomputable def mK:ar:=⟨⟨[84,46,49]⟩⟩
noncomputable def nP:ar:=⟨⟨[78,46,50]⟩⟩
noncomputable def P1(dT dN:ah):G jP:=[⟨223,[cD (.tok 20),nQ],.bool dT⟩,⟨223,[.tok 21,lS],.bool dN⟩]
noncomputable def D1:G nW:=[⟨67,cD (.tok 20),mK,vT,cD (.tok 21)⟩,⟨67,.tok 21,nP,vN,.tup [du,.tok 12,.tok 13]⟩]
noncomputable def W1(dT dN:ah):bQ:=gp cz (kP 90 (P1 dT dN) D1) ke (λ_ _=>.none) 0
noncomputable def A8(d_:D):G (aa D):=[some (.tok 0),some (.tok 10),some d_,some (.int 4000),.none,.none,.none,.none,.none,.none,.none,.none,.none,.none,.none,.none,.none]
noncomputable def dE(B:G (aa D))(i:H):aa D:=kN (fJ B i)
noncomputable def gw(E:aa D):D:=match E with
 |some v=>v
 |.none=>.none
noncomputable def nI(E:aa D):D:=match E with
 |some v=>v
 |.none=>.any
noncomputable def Hm(E:aa D):aa H:=match E with
 |some v=>match v with
  |.ref i=>some i
  |_=>.none
 |.none=>.none
noncomputable def u7(f:eh):ah:=match f with
 |.next=>true
 |.ret _=>false
noncomputable def pF(ks:G H)(o:MH)(v:D):aa D:=match v with
 |.ref i=>BL (λi=>!(mC i ks)) o i
 |_=>.none
noncomputable def jJ:G D:=[.tup [lS,.str eD],.tup [nQ,.str eE]]
noncomputable def Y1(f:eh)(fr:Fm)(o:MH)(i nm gl dd r:H):aa D:=bO (u7 f&&kM i (gw (dE fr.vars 4))&&kM nm (gw (dE fr.vars 5))&&kM gl (gw (dE fr.vars 7))&&cJ (dE fr.vars 6)&&sQ o i 200 dd&&cJ (d2 o dd eH eG)&&kM r (gf o dd eH eG).1&&oH 2 (gf o dd eH eG).2&&
  cJ (d2 o r eE eD)&&cJ (pF [i,dd,r,nm,gl] o (gf o r eE eD).1)&&cJ (pF [i,dd,r,nm,gl] o (gf o r eE eD).2)&&cJ (jj o nm)&&cJ (jj o gl)&&yf [i,dd,r,nm,gl]&&cT (lG o nm).2 jJ&&cT (lG o gl).2 []&&gO 0 (gw (dE fr.vars 0))&&gO 10 (gw (dE fr.vars 1))&&oH 4000 (gw (dE fr.vars 3)))
 (.tup [oG .none (dE fr.vars 6),oG .none (pF [i,dd,r,nm,gl] o (gf o r eE eD).1),oG .none (pF [i,dd,r,nm,gl] o (gf o r eE eD).2)])
noncomputable def Y0(f:eh)(fr:Fm)(o:MH)(i dd:H):aa D:=Y1 f fr o i (tq (gw (dE fr.vars 5))) (tq (gw (dE fr.vars 7))) dd (tq (gf o dd eH eG).1)
noncomputable def FV(f:eh)(fr:Fm)(o:MH):aa D:=Y0 f fr o (tq (gw (dE fr.vars 4))) (oG (0,0) (te o (tq (gw (dE fr.vars 4))))).2
noncomputable def yq(dT dN:ah)(up:D):aa D:=iy (run ip (W1 dT dN) 130) ⟨i9,.none⟩ (jH.take 3) ⟨A8 (dk up (cD (.tok 20))),[]⟩ ⟨.nil,0⟩ FV
noncomputable def stM(a b:D):MH:=fA [.inst 200 1,.dict [(.str eH,.ref 2),(.str eG,.int 2)],.dict [(.str eE,a),(.str eD,b)],.list 400 jJ,.list 400 []]
noncomputable def A9(bd:D):G (aa D):=[some (.tok 0),some (.tok 10),.none,some (.int 4000),some (.ref 0),some (.ref 3),some bd,some (.ref 4),.none,.none,.none,.none,.none,.none,.none,.none,.none]
noncomputable def W4(res:ah)(R:G (G D))(LB:G D)(p:H):bQ:=gp cz (N5 70 res R LB p) ke (λ_ _=>.none) 0
noncomputable def FW(res:ah)(f:eh)(fr:Fm)(o:MH):aa D:=bO (u7 f&&sQ o 0 200 1&&gO 0 (gw (dE fr.vars 0))&&kM 3 (gw (dE fr.vars 5))&&cJ (d2 o 1 eH eG)&&kM 2 (gf o 1 eH eG).1&&oH 2 (gf o 1 eH eG).2&&cJ (d2 o 2 eE eD)&&gO 3 (gf o 2 eE eD).1&&gO 4 (gf o 2 eE eD).2&&
  cJ (jj o 3)&&cT (lG o 3).2 jJ&&@bN (λ_=>ah) (AU (nI (dE fr.vars 11))) (kM 0 (nI (dE fr.vars 11))) res) .none
noncomputable def mr(res:ah)(R:G (G D))(LB:G D)(p:H):aa D:=iy (run ip (W4 res R LB p) 90) ⟨i9,.none⟩ ((jH.drop 3).take 1) ⟨A9 (.tok 11),[]⟩ (stM (.tok 1) (.tok 2)) (FW res)
noncomputable def vS(a b:D):MH:=fA [.inst 200 1,.dict [(.str eH,.ref 2),(.str eG,.int 2)],.dict [(.str eE,a),(.str eD,b)],.list 400 jJ]
noncomputable def A_(fd:D):G (aa D):=[some (.tok 0),.none,.none,.none,.none,some (.ref 3),.none,.none,.none,.none,.none,some fd,.none,.none,.none,.none,.none]
noncomputable def FX(f:eh)(fr:Fm)(o:MH):aa D:=match f with
 |.next=>.none
 |.ret v=>match v with
  |.none=>some .none
  |.ref i=>eQ (vG o i) λR=>bO (allB (λq=>bE q.2) R&&allB qX R&&eB 4 i) (.aD (.dict (hJ R)) (mapA (λq=>q.2) R))
  |_=>.none
noncomputable def qL(a b fd:D):aa D:=iy (run ip WS 120) ⟨i9,.none⟩ (jH.drop 4) ⟨A_ fd,[]⟩ (vS a b) FX
theorem LA{α:Type}{f:α->ah}{x:α}{B:G α}(e:findB f B=some x):x∈B/\f x=true:=by
 induction B with
 |nil=>exact aB e
 |cons p P O=>
  have e':@bN (λ_=>aa α) (findB f P) (some p) (f p)=some x:=e
  generalize I:f p=ax at e'
  cases ax with
  |false=>exact⟨.tail _ (O e').1,(O e').2⟩
  |true=>rw [<-aM e'];exact⟨.head _,I⟩
theorem Vv{a:H}{args:G D}{m:D}(e:Eo P a args=some m):∃p∈P,p.a=a/\p.args=args/\p.res=m:=by
 refine ay (fp e) λp h e=>?_
 refine xA (LA h) λh I=>?_
 exact⟨p,h,dU (bx I),eu (bL I),aM e⟩
theorem Vu{a:H}{t:D}{x:ar}(e:findD bj a t x r=some m):∃p∈bj,p.a=a/\p.t=t/\p.x=x/\p.r=r/\p.res=m:=by
 refine ay (fp e) λp h e=>?_
 refine xA (LA h) λh I=>?_
 exact⟨p,h,dU (bx (bx (bx I))),iK (bL (bx (bx I))),lV.mp (bL (bx I)),iK (bL I),aM e⟩
theorem T1(e:d1 R=some q):R=[(.str q.1,q.2)]:=by
 cases R with
 |nil=>exact aB e
 |cons p r=>cases r with
  |cons=>exact aB e
  |nil=>
   obtain⟨k,v⟩:=p
   cases k with
   |str x=>rw [<-aM e]
   |_=>exact aB e
section
variable{c:a_}{w:WB}{J:aP}{W:bQ}{tv:H->aa D}{eq:D->D->aa ah}{pull lv:H}{P:G jP}{bj:G nW}
theorem vI(hP:∀p∈P,∀o,nV c w J lv p.a p.args o p.res o)(hD:∀d∈bj,∀o j,o.t.get j=some (.dict [(.str d.x,d.r)])->nV c w J lv d.a [d.t,.ref j] o d.res o):iF c w J (gp W (kP lv P bj) tv eq pull):=by
 intro a B o p e
 have e:kP lv P bj a B o=some p:=e
 unfold kP at e
 generalize h:Eo P a B=ax at e
 cases ax with
 |some m=>
  have e:=aM e
  rw [<-e]
  refine iZ (Vv h) λq hq aE bU fV=>?_;rw [<-aE];rw [<-bU];rw [<-fV]
  exact hP q hq o
 |none=>
  refine ay (fp (e:N4 lv bj a B o=some p)) λk h1 e=>?_
  refine ay (fp h1) λR h2 h1=>?_
  refine ay (fp e) λm h3 e=>?_
  refine xA (jA e) λI aI=>?_;rw [<-aI]
  refine iZ (Vu h3) λq hq aE h4 bB=>cf bB λh5 h6 acD=>?_;rw [<-aE];rw [<-acD]
  rw [eu I,<-h4]
  exact hD q hq o _ (by rw [yj h2,T1 h1,h5,h6])
end
section
variable{o:MH}{fr:Fm}{aL aQ aJ:H->aa D}
theorem mP(e:dE B i=some m):B[i]?=some (some m):=by
 have:=AX e
 rw [oN] at this
 exact this
theorem qn(e:gO j (gw (dE B i))=true):B[i]?=some (some (.tok j)):=by
 generalize h:dE B i=ax at e
 cases ax with
 |none=>exact bz e
 |some v=>rw [mP h,lF (v:=v) e]
theorem afb(e:oH j (gw (dE B i))=true):B[i]?=some (some (.int j)):=by
 generalize h:dE B i=ax at e
 cases ax with
 |none=>exact bz e
 |some v=>rw [mP h,sS (v:=v) e]
theorem B5(e:kM j (gw (dE B i))=true):B[i]?=some (some (.ref j)):=by
 generalize h:dE B i=ax at e
 cases ax with
 |none=>exact bz e
 |some v=>rw [mP h,sR (v:=v) e]
theorem xS(e:u7 f=true):f=.next:=by
 cases f with
 |next=>rfl
 |ret=>exact bz e
theorem Oe:∀{B:G D},(∀m∈B,bC m=true)->allB bE B=true
 |[],_=>rfl
 |a::B,h=>by
  refine(?_:(bE a&&allB bE B)=true)
  rw [fB,h a (.head _),Oe λm hm=>h m (.tail _ hm)];rfl
theorem KI(e:pF ks o v=some v'):Cv aQ aJ o β (λi=>i∉ks) v v'/\bC v'=true:=by
 cases v with
 |ref i=>
  have e:BL (λi=>!(mC i ks)) o i=some v':=e
  refine gK (OD e) λaq d bB=>eK bB λq R h1 h2 c1 dA=>eN dA λc2 c3 c4 Hp=>?_;rw [Hp]
  exact⟨.inst h1 h2 (A6 ((wi _).mp c1)) (A6 ((wi _).mp c2)) c3 (iw c4),by rw [<-fB,s9];exact Oe c4⟩
 |_=>exact aB e
inductive JO(fr:Fm)(o:MH)(ag:D):Prop
 |mk (i nm gl dd r:H) (z1 z2 bd a b:D) (ub gb:H):ag=.tup [bd,a,b]->fr.vars[4]?=some (some (.ref i))->fr.vars[5]?=some (some (.ref nm))->fr.vars[7]?=some (some (.ref gl))->fr.vars[6]?=some (some bd)->fr.vars[0]?=some (some (.tok 0))->fr.vars[1]?=some (some (.tok 10))->fr.vars[3]?=some (some (.int 4000))->o.t.get i=some (.inst 200 dd)->o.t.get dd=some (.dict [(.str eH,.ref r),(.str eG,.int 2)])->o.t.get r=some (.dict [(.str eE,z1),(.str eD,z2)])->pF [i,dd,r,nm,gl] o z1=some a->pF [i,dd,r,nm,gl] o z2=some b->o.t.get nm=some (.list ub jJ)->o.t.get gl=some (.list gb [])->[i,dd,r,nm,gl].Nodup->JO fr o ag
theorem YZ(e:FV f fr o=some ag):f=.next/\JO fr o ag:=by
 refine xA (jA e) λKe aI=>?_;rw [<-aI]
 have Kd:=bx Ke
 have w8:=bx Kd
 have w7:=bx w8
 have w6:=bx w7
 have w4:=bx w6
 have w3:=bx w4
 have pE:=bx w3
 have nk:=bx pE
 have nj:=bx nk
 have nh:=bx nj
 have c9:=bx nh
 have c8:=bx c9
 have c7:=bx c8
 have c6:=bx c7
 have c5:=bx c6
 have c4:=bx c5
 have c3:=bx c4
 have c2:=bx c3
 have l1:∃b,_:=sX (bL pE)
 have l2:∃b,_:=sX (bL w3)
 rw [eu (bL w6)] at l1
 rw [eu (bL w7)] at l2
 refine bw l1 ?_;clear l1;intro ub l1
 refine bw l2 ?_;clear l2;intro gb l2
 exact⟨xS (bx c2),_,_,_,_,_,_,_,_,_,_,ub,gb,rfl,B5 (bL c2),B5 (bL c3),B5 (bL c4),mP (pT (bL c5)),qn (bL w8),qn (bL Kd),afb (bL Ke),u6 (bL c6),ou (bL c7) (sR (bL c8)) (sS (bL c9)),ou (bL nh) rfl rfl,pT (bL nj),pT (bL nk),l1,l2,Gm (bL w4)⟩
end
section
variable{o:MH}{fr:Fm}{aL aQ aJ:H->aa D}
theorem GQ(e:nI (dE B i)=m)(h:m≠.any):B[i]?=some (some m):=by
 generalize q:dE B i=ax at e
 cases ax with
 |none=>exact bP e.symm h
 |some v=>have e:v=m:=e;rw [mP q,e]
noncomputable def found(res:ah):D:=match res with
 |true=>.ref 0
 |false=>.none
theorem Y2(e:FW res f fr o=some ag):f=.next/\o.t.get 0=some (.inst 200 1)/\o.t.get 1=some (.dict [(.str eH,.ref 2),(.str eG,.int 2)])/\o.t.get 2=some (.dict [(.str eE,.tok 3),(.str eD,.tok 4)])/\(∃ub,o.t.get 3=some (.list ub jJ))/\
  fr.vars[0]?=some (some (.tok 0))/\fr.vars[5]?=some (some (.ref 3))/\fr.vars[11]?=some (some (found res)):=by
 refine xA (jA e) λpE aI=>?_;skip
 have nk:=bx pE
 have nj:=bx nk
 have nh:=bx nj
 have c9:=bx nh
 have c8:=bx c9
 have c7:=bx c8
 have c6:=bx c7
 have c5:=bx c6
 have c4:=bx c5
 have c3:=bx c4
 have c2:=bx c3
 have l1:∃b,_:=sX (bL nj)
 rw [eu (bL nk)] at l1
 refine⟨xS (bx c2),u6 (bL c2),ou (bL c5) (sR (bL c6)) (sS (bL c7)),ou (bL c8) (lF (bL c9)) (lF (bL nh)),l1,qn (bL c3),B5 (bL c4),?_⟩
 cases res with
 |true=>exact GQ (sR (bL pE)) (λq=>nomatch q)
 |false=>exact GQ (MD (bL pE)) (λq=>nomatch q)
theorem Y3(e:FX f fr o=some ag):∃v,f=.ret v/\((v=.none/\ag=.none)\/∃i R,v=.ref i/\o.t.get i=some (.dict R)/\allB qX R=true/\(∀q∈R,bC q.2=true)/\ag=.aD (.dict (hJ R)) (R.map (·.2))):=by
 cases f with
 |next=>exact aB e
 |ret v=>
  refine⟨v,rfl,?_⟩
  cases v with
  |none=>exact .inl ⟨rfl,(aM e).symm⟩
  |ref i=>
   refine ay (fp e) λR h e=>?_
   refine xA (jA e) λI aI=>?_;rw [<-aI]
   exact .inr ⟨i,R,rfl,yj h,bL (bx I),λq hq=>fB _▸b7 (bx (bx I)) q hq,by rw [pY]⟩
  |_=>exact aB e
end
section
variable{c:a_}{w:dF}{Y:bG}{F C ao:G aA}{s:aT}{J h M:aP}{o:MH}{X:cK}{aL aQ aJ:H->aa D}{fr:Fm}{KT:D}
theorem HJ(h:j<5):(stM a b).t.get j=([.inst 200 1,.dict [(.str eH,.ref 2),(.str eG,.int 2)],.dict [(.str eE,a),(.str eD,b)],.list 400 jJ,.list 400 []]:G cL)[j]?:=by
 rcases j with _|_|_|_|_|j<;>first|rfl|exact bP h (g7.mpr (ud 5 j))
theorem adQ(h:j<4):(vS a b).t.get j=([.inst 200 1,.dict [(.str eH,.ref 2),(.str eG,.int 2)],.dict [(.str eE,a),(.str eD,b)],.list 400 jJ]:G cL)[j]?:=by
 rcases j with _|_|_|_|j<;>first|rfl|exact bP h (g7.mpr (ud 4 j))
theorem Gk(m:D)(hm:m∈jJ):bC m=true:=by
 have hm:m∈[D.tup [lS,.str eD],.tup [nQ,.str eE]]:=hm
 simp only [bY,eP,gH] at hm
 rcases hm with rfl|rfl<;>rfl
inductive CT(C:G aA)(i dd r nm gl:H):Prop
 |mk (a0 a1 a2 a3 a4:aA):C[i]?=some a0->C[dd]?=some a1->C[r]?=some a2->C[nm]?=some a3->C[gl]?=some a4->CT C i dd r nm gl
theorem ab2(S:St c (wb c w aL) J F C o h)(hi:i<C.length)(hn:nm<C.length)(hg:gl<C.length)(e1:o.t.get i=some (.inst 200 dd))(e2:o.t.get dd=some (.dict [(.str eH,.ref r),(.str eG,.int 2)])):CT C i dd r nm gl:=by
 refine ay (S.ref (cV hi) e1) λa1 h1 _=>?_
 obtain⟨a2,h2⟩:∃a2,C[r]?=some a2:=by
  obtain⟨⟨aR,d,u,_⟩|⟨aR,d,u⟩,_⟩:=S.ref h1 e2
  .cases u with
   |cons hp _=>
    refine ay hp λa5 e5 _=>?_
    exact⟨a5,e5⟩
  .refine bw (Ip u) λk hk=>?_
   cases hk
 exact⟨_,a1,a2,_,_,cV hi,h1,h2,cV hn,cV hg⟩
theorem pB{α:Type}{P:H->α->Prop}{a0 a1 a2 a3 a4:α}{i:α}(e:[a0,a1,a2,a3,a4][j]?=some i)(h0:P 0 a0)(h1:P 1 a1)(h2:P 2 a2)(h3:P 3 a3)(h4:P 4 a4):P j i:=by
 rcases j with _|_|_|_|_|j<;>first|exact aB e|(rw [<-aM e];assumption)
theorem ab5(S:St c (wb c w aQ) J F C o h)(nd:is.Nodup)(sL:∀(j:H) (x:aA),bf[j]?=some x->∃k:H,is[j]?=some k/\C[k]?=some x)(hb:∀(j k:H) (x:aA),is[j]?=some k->C[k]?=some x->bf[j]?=some x)(len:dz.n=bf.length)
  (cv:∀(j k:H),j<bf.length->is[j]?=some k->∃E o2,o.t.get k=some E/\dz.t.get j=some o2/\gR aQ aJ o (λk=>lQ k is) (λk=>k∉is) E o2):St c (wb c w aJ) J F bf dz h:=by
 have sub:∀x∈bf,x∈C:=λx hx=>by
  obtain⟨j,hj,e⟩:=iE hx
  refine ay (sL j x (by rw [cV hj,e])) λk _ e'=>?_
  exact dy e'
 refine S.mJ (β:=λk=>lQ k is) (FZ:=λk=>k∉is) len (picked S.apart nd sL) (λx hx=>?_) (λx E _ sf=>⟨sf.1,λq=>sf.2 (sub x q)⟩) (λk x hk ek=>⟨λq=>(S.cI x q).2.1 (dy ek),λq=>?_⟩) (λk j x eb ek=>hb j k x (Hd eb) ek) (λj x ej=>?_)
 .refine cf (S.cI x hx) λq1 q2 q3=>?_
  exact⟨q1,λz=>q2 (sub x z),q3⟩
 .obtain⟨j,hj,e⟩:=iE q
  refine ay (sL j x (by rw [cV hj,e])) λk' q1 q2=>?_
  exact hk (qe S.apart ek q2▸dy q1)
 .refine ay (sL j x ej) λk q1 q2=>?_
  refine eO (cv j k (eM.mp ej).1 q1) λE o2 z1 z2 z3=>?_
  exact⟨k,E,o2,q2,z1,z2,z3⟩
theorem aa_{i dd r nm gl:H}{z1 z2 a b:D}{a0 a1 a2 a3 a4:aA}(S:St c (wb c w aQ) J F C o h)(e1:o.t.get i=some (.inst 200 dd))(e2:o.t.get dd=some (.dict [(.str eH,.ref r),(.str eG,.int 2)]))(e3:o.t.get r=some (.dict [(.str eE,z1),(.str eD,z2)]))
  (c1:pF [i,dd,r,nm,gl] o z1=some a) (c2:pF [i,dd,r,nm,gl] o z2=some b) (e4:o.t.get nm=some (.list ub jJ)) (e5:o.t.get gl=some (.list gb [])) (nd:[i,dd,r,nm,gl].Nodup)
  (p0:C[i]?=some a0) (p1:C[dd]?=some a1) (p2:C[r]?=some a2) (p3:C[nm]?=some a3) (p4:C[gl]?=some a4):St c (wb c w aJ) J F [a0,a1,a2,a3,a4] (stM a b) h:=by
 refine ab5 (is:=[i,dd,r,nm,gl]) S nd (λj x e=>pB (P:=λj x=>∃k:H,[i,dd,r,nm,gl][j]?=some k/\C[k]?=some x) e ⟨_,rfl,p0⟩ ⟨_,rfl,p1⟩ ⟨_,rfl,p2⟩ ⟨_,rfl,p3⟩ ⟨_,rfl,p4⟩)
  (λj k x e ek=>(pB (P:=λj k=>C[k]?=[a0,a1,a2,a3,a4][j]?) e p0 p1 p2 p3 p4).symm.trans ek) rfl λj k hj e=>?_
 rw [HJ hj]
 exact pB (P:=λj k=>∃E o2,o.t.get k=some E/\([.inst 200 1,.dict [(.str eH,.ref 2),(.str eG,.int 2)],.dict [(.str eE,a),(.str eD,b)],.list 400 jJ,.list 400 []]:G cL)[j]?=some o2/\gR aQ aJ o (λk=>lQ k [i,dd,r,nm,gl]) (λk=>k∉[i,dd,r,nm,gl]) E o2) e
  ⟨_,_,e1,rfl,.inst (Bt (q:=1) nd rfl)⟩ ⟨_,_,e2,rfl,.dict rfl (.cons (.ref (Bt (q:=2) nd rfl)) (.cons (.same rfl) .nil))⟩ ⟨_,_,e3,rfl,.dict rfl (.cons (KI c1).1 (.cons (KI c2).1 .nil))⟩
  ⟨_,_,e4,rfl,.list (iw Gk) (by decide) (by decide)⟩ ⟨_,_,e5,rfl,.list .nil (by decide) (by decide)⟩
theorem adR{a b a' b':D}(S:St c (wb c w aQ) J F C (stM a b) h)(ka:Tk aQ aJ a a')(kb:Tk aQ aJ b b'):St c (wb c w aJ) J F C (stM a' b') h:=by
 refine S.mJ (β:=some) (FZ:=λ_=>dP) S.len S.apart S.cI (λa E _ sf=>sf) (λi a hi e=>hi.elim) (λi j a e q=>aM e▸q) (λj x e=>?_)
 have hj:j<5:=by have:=(eM.mp e).1;rw [<-S.len] at this;exact this
 have g:∃E o2,([.inst 200 1,.dict [(.str eH,.ref 2),(.str eG,.int 2)],.dict [(.str eE,a),(.str eD,b)],.list 400 jJ,.list 400 []]:G cL)[j]?=some E/\([.inst 200 1,.dict [(.str eH,.ref 2),(.str eG,.int 2)],.dict [(.str eE,a'),(.str eD,b')],.list 400 jJ,.list 400 []]:G cL)[j]?=some o2/\gR aQ aJ (stM a b) some (λ_=>dP) E o2:=
  pB (P:=λj (_:mX)=>∃E o2,([.inst 200 1,.dict [(.str eH,.ref 2),(.str eG,.int 2)],.dict [(.str eE,a),(.str eD,b)],.list 400 jJ,.list 400 []]:G cL)[j]?=some E/\([.inst 200 1,.dict [(.str eH,.ref 2),(.str eG,.int 2)],.dict [(.str eE,a'),(.str eD,b')],.list 400 jJ,.list 400 []]:G cL)[j]?=some o2/\gR aQ aJ (stM a b) some (λ_=>dP) E o2)
   (a0:=()) (a1:=()) (a2:=()) (a3:=()) (a4:=()) (i:=()) (by rw [cV (h:=hj)]) ⟨_,_,rfl,rfl,.inst rfl⟩ ⟨_,_,rfl,rfl,.dict rfl (.cons (.ref rfl) (.cons (.same rfl) .nil))⟩ ⟨_,_,rfl,rfl,.dict rfl (.cons ka.cv (.cons kb.cv .nil))⟩ ⟨_,_,rfl,rfl,.list (iw Gk) (by decide) (by decide)⟩ ⟨_,_,rfl,rfl,.list .nil (by decide) (by decide)⟩
 refine eO g λE o2 g1 g2 g3=>?_
 exact⟨j,E,o2,e,(HJ hj).trans g1,(HJ hj).trans g2,g3⟩
theorem Tz(S:St c (wb c w aQ) J F ao o h)(hp:C<+:ao)(dM:C.length=5)(e0:o.t.get 0=some (.inst 200 1))(e1:o.t.get 1=some (.dict [(.str eH,.ref 2),(.str eG,.int 2)]))(e2:o.t.get 2=some (.dict [(.str eE,.tok 3),(.str eD,.tok 4)]))(e3:o.t.get 3=some (.list ub jJ))
  (t3:aQ 3=some x) (t4:aQ 4=some y):St c (wb c w aJ) J F (C.take 4) (vS x y) h:=by
 have gU:C.take 4<+:ao:=(Q7 ..).trans hp
 have hl:(C.take 4).length=4:=by rw [zj];lia
 have sub:∀a∈C.take 4,a∈ao:=λa ha=>gU.subset ha
 refine S.mJ (β:=λi=>if i<4 then some i else none) (FZ:=λi=>dP) (by rw [hl];rfl) (Co gU.sublist S.apart) (λa ha=>?_) (λa E _ sf=>⟨sf.1,λq=>sf.2 (sub a q)⟩) (λi a hi e=>hi.elim) (λi j a e q=>?_) (λj a e=>?_)
 .refine cf (S.cI a ha) λq1 q2 q3=>?_
  exact⟨q1,λz=>q2 (sub a z),q3⟩
 .by_cases hi:i<4
  .rw [bT hi] at e
   cases e
   rw [<-ja gU (by lia)]
   exact q
  .rw [bk hi] at e;exact aB e
 .have hj:j<4:=by have:=(eM.mp e).1;lia
  have e':ao[j]?=some a:=by rw [ja gU (by lia)];exact e
  rw [adQ hj]
  match j,hj,e' with
  |0,_,e'=>exact⟨0,_,_,e',e0,rfl,.inst rfl⟩
  |1,_,e'=>exact⟨1,_,_,e',e1,rfl,.dict rfl (.cons (.ref rfl) (.cons (.same rfl) .nil))⟩
  |2,_,e'=>exact⟨2,_,_,e',e2,rfl,.dict rfl (.cons (.fe t3) (.cons (.fe t4) .nil))⟩
  |3,_,e'=>exact⟨3,_,_,e',e3,rfl,.list (iw Gk) (by decide) (by decide)⟩
  |j+4,hj,_=>exact bP hj (by exact g7.mpr (ud _ _))
end
theorem VK:cz.fn 382=some ⟨4,[.int 4000],jH,i9⟩:=by kernel_rfl
noncomputable def Ir(one d_:D):G (aa D):=[some (.tok 0),some one,some d_,some (.int 4000),.none,.none,.none,.none,.none,.none,.none,.none,.none,.none,.none,.none,.none]
theorem adT(one d_:D):tI ⟨4,[.int 4000],jH,i9⟩ [.tok 0,one,d_]=some (Ir one d_):=by kernel_rfl
theorem adI:jH=jH.take 3++((jH.drop 3).take 1++jH.drop 4):=by kernel_rfl
noncomputable def jL(KT one fj tail i5 jN:D):H->aa D
 |0=>some KT
 |10=>some one
 |12=>some fj
 |13=>some tail
 |20=>some i5
 |21=>some jN
 |_=>.none
noncomputable def kc(KT x y x' y' one Qc:D):H->aa D
 |0=>some KT
 |1=>some x
 |2=>some y
 |3=>some x'
 |4=>some y'
 |10=>some one
 |11=>some Qc
 |_=>.none
section
variable{c:a_}{w:dF}{Y:bG}{F C ao bq bf own:G aA}{s:aT}{J h M h1:aP}{o:MH}{X:cK}{aL aQ aJ:H->aa D}{fr:Fm}{KT:D}{K:b8}{mg mb:ar->aa aw}{n:H}
theorem bh.cut(st:bh own C h bq h1)(sub:∀a∈bf,a∈bq)(pre:C<+:bf):bh own C h bf h1:=⟨pre,st.keep,λb E e n=>⟨(st.out b E e n).1,λq=>(st.out b E e n).2 (sub b q)⟩⟩
noncomputable def Js(c:a_)(w:dF)(KT:D)(F:G aA)(R5:D)(v:aw)(h M:aP):Prop:=
 (R5=.none/\v=.none)\/∃a R ks,v=.ref a/\h.get? a=none/\R5=.aD (.dict ks) (R.map (·.2))/\R.map (·.1)=ks.map D.str/\(∀q∈R,bC q.2=true)/\OR c (wb c w (aU KT)) F [a] M a (.dict R)
noncomputable def kh(c:a_)(w:dF)(J:aP)(KT:D)(eC:H)(one d_ R5:D):Prop:=
 ∀(Y:bG) (F:G aA) (s:aT) (V:G aw),eY eC Y->St c (wb c w (aU KT)) J F [] ⟨.nil,0⟩ s.heap->aW c (wb c w (aU KT)) F [] s.heap [.tok 0,one,d_] V->bc c (wb c w (aU KT)) Y [] [] s (call (.ref 382) V) (λv _ M=>Js c w KT F R5 v s.heap M)
noncomputable def Qy(R5:D)(m:D)(o:MH):Prop:=(m=.none/\R5=.none)\/∃i R,m=.ref i/\o.t.get i=some (.dict R)/\allB qX R=true/\(∀q∈R,bC q.2=true)/\R5=.aD (.dict (hJ R)) (R.map (·.2))
theorem kY(h:aL 0=some aH):uk c w aL ke:=ae0 λi m e=>by
 have e':@bN (λ_=>aa D) .none (some aH) (bA i 0)=some m:=e
 generalize I:bA i 0=ax at e'
 cases ax with
 |false=>exact aB e'
 |true=>
  cases e'
  rw [dU I]
  exact⟨h,by kernel_rfl⟩
theorem YW:i9[4]?=some (⟨⟨[115,105,100,101,115]⟩⟩,qC):=by kernel_rfl
theorem YX:i9[5]?=some (⟨⟨[110,97,109,101,115]⟩⟩,qC):=by kernel_rfl
theorem YY:i9[7]?=some (⟨⟨[103,111,97,108,115]⟩⟩,qC):=by kernel_rfl
theorem jD:cz.fn 0=none:=by kernel_rfl
theorem xe(S:St c (wb c w aQ) J F C o h)(sub:∀a∈bf,a∈C)(I:Cv aQ aJ o (λ_=>.none) (λ_=>dP) m m')(x:VR c (wb c w aQ) F C h m v):VR c (wb c w aJ) F bf h m' v:=
 I.ok S (λ_ _ _ e=>by exact aB e) (λb E _ sf=>⟨sf.1,λq=>sf.2 (sub b q)⟩) (λ_ _ q=>q.elim) x
theorem yS(e1:C[i]?=some a)(e2:bf[j]?=some a)(x:VR c w1 F C h (.ref i) v):VR c w2 F bf h (.ref j) v:=by
 refine ay x λb q r=>?_
 rw [e1] at q
 cases q
 exact⟨a,e2,r⟩
noncomputable def newOk(P:H->D->Prop):H->G (aa D)->Prop
 |_,[]=>jz
 |k,none::B=>newOk P (k+1) B
 |k,some m::B=>P k m/\newOk P (k+1) B
theorem aaw:∀{k:H},newOk P k B->∀{i:H} {m:D},B[i]?=some (some m)->P (k+i) m:=by
 induction B with
 |nil=>exact λ_ _ _ e=>nomatch e
 |cons a B O=>
  intro k h i m e
  cases i with
  |zero=>
   have e:=aM e
   rw [show a=some m from e] at h
   exact h.1
  |succ i=>
   rw [<-ph,Ju]
   cases a with
   |none=>exact O h e
   |some=>exact O h.2 e
theorem Gr(h:newOk P 0 B)(i:H)(m:D)(e:B[i]?=some (some m)):P i m:=by
 have:=aaw h e
 rwa [uh] at this
theorem ZM(aV:Base c w K cz J mg mb)(k1:cR one=true)(FH:bC up=true)(k2:cR i5=true)(k4:cR fj=true)(k5:cR tail=true)(ox:cR x=true)(oy:cR y=true)(Bn:cR x'=true)(Bo:cR y'=true)
  (hP:iF c (wb c w (jL aH one fj tail i5 jN)) J (W1 dT dN)) (h1:yq dT dN up=some (.tup [.tup [du,.tok 12,.tok 13],x,y]))
  (lp:p<=390) (uV:(res=true/\oc=.good x' y'/\LB=[]/\R=[])\/(res=false/\oc=.bad R LB x' y'/\p=0)) (ll:LB.length<=400) (qf:∀m∈LB,bC m=true) (pe:∀e∈R,(∀m∈e,bC m=true)/\e.length<=400) (le:R.length<=2)
  (Sc:∀(Y:bG) (F C:G aA) (s:aT) (a0 a2 a3 a6:aA),eY 70 Y->St c (wb c w (aU aH)) J F C (stH 4000 [.tup [.str ⟨⟨[115,117,98]⟩⟩,one,.tup [du,fj,tail]]] (dh 0 .any) x y) s.heap->C[0]?=some a0->C[2]?=some a2->C[3]?=some a3->C[6]?=some a6->
   bc c (wb c w (aU aH)) Y [] C s (call (.ref 277) [.ref a0,.ref a2,.ref a3,.ref a6]) (λv ao M=>C<+:ao/\zA c w J aH F ao 3900 p oc v M))
  (h4:mr res R LB p=some .none) (h5:qL x' y' (found res)=some R5):kh c w J aH 180 one (dk up (cD i5)) R5:=by
 refine xA (aN.mp k1) λq1 acm=>?_
 refine xA (aN.mp k2) λq2 acn=>?_
 refine xA (aN.mp k4) λq4 agZ=>?_
 refine xA (aN.mp k5) λq5 ag0=>?_
 have kx:=aN.mp ox
 have ky:=aN.mp oy
 have agG:=aN.mp Bn
 have agH:=aN.mp Bo
 intro Y F s V room S y0 Q au q
 obtain⟨E,fd,dv,Fi⟩:=aV.fn (aL:=aU aH) VK
 have T:=aV.top (aL:=aU aH) (gX:=λ_ _ _=>.none) (tv:=ke) (eq:=λ_ _=>.none) (pull:=0) (kY rfl) hN
 have R0:∀bu:D,Sound (λr:aa D=>r=some bu) c (wb c w (jL aH one fj tail i5 jN)) J 130 (run ip (W1 dT dN) 130):=λbu=>aV.sound (kY rfl) hN hP (.inl jD) (mj bu) 130
 have R2:∀bu:D,Sound (λr:aa D=>r=some bu) c (wb c w (aU aH)) J 120 (run ip WS 120):=λbu=>aV.sound (kY rfl) hN lM (.inl jD) (mj bu) 120
 have O4:iF c (wb c w (kc aH x y x' y' one (.tup [du,fj,tail]))) J (W4 res R LB p):=λa B o q e=>
  abi (aL:=kc aH x y x' y' one (.tup [du,fj,tail])) rfl rfl rfl rfl rfl rfl rfl Bn Bo lp uV ll qf pe le Sc e
 have R1:∀bu:D,Sound (λr:aa D=>r=some bu) c (wb c w (kc aH x y x' y' one (.tup [du,fj,tail]))) J 90 (run ip (W4 res R LB p) 90):=λbu=>aV.sound (kY rfl) hN O4 (.inl jD) (mj bu) 90
 refine B_ (zP (n:=179) (ag:=Prop) (ae:=λr=>r) (k:=Qy R5) T Fi room.calls room.deep S y0 (adT one _) (λs1 X C1=>?_) λv ao M tk st pv=>?_)
 .intro Q au q
  refine(?_:bo _ _ (iH jH X) _ _ _)
  rw [adI,uJ]
  have G0:dm c (wb c w (aU aH)) (ownOf X++F) [] s1.heap i9 (Ir one (dk up (cD i5))) X:=C1.fr
  have gF:=G0.own
  have S1:=C1.st.bare (F2:=ownOf X++F) (λa ha=>.inl ha) (jL aH one fj tail i5 jN)
  have z7:∀{m m':D},Cv (aU aH) (jL aH one fj tail i5 jN) ⟨.nil,0⟩ (λ_=>.none) (λ_=>dP) m m'->∀v,VR c (wb c w (aU aH)) (ownOf X++F) [] s1.heap m v->VR c (wb c w (jL aH one fj tail i5 jN)) (ownOf X++F) [] s1.heap m' v:=λI v x=>xe C1.st (λa (ha:a∈([]:G aA))=>nomatch ha) I x
  have G1:dm c (wb c w (jL aH one fj tail i5 jN)) (ownOf X++F) [] s1.heap i9 (A8 (dk up (cD (.tok 20)))) X:=by
   refine G0.weak gF (Gr (P:=λi m'=>∃m,(Ir one (dk up (cD i5)))[i]?=some (some m)/\∀v,VR c (wb c w (aU aH)) (ownOf X++F) [] s1.heap m v->VR c (wb c w (jL aH one fj tail i5 jN)) (ownOf X++F) [] s1.heap m' v)
    ⟨⟨_,rfl,z7 (.gZ rfl rfl)⟩,⟨_,rfl,z7 (.eT q1 acm rfl)⟩,⟨_,rfl,z7 (.tup (.cons (.same rfl) (.cons (.same rfl) (.cons (.same rfl) (.cons (.same FH) (.cons (.tup (.cons (.same rfl) (.cons (.same rfl) (.cons (.same rfl) (.cons (.same rfl) (.cons (.eT q2 acn rfl) .nil)))))) .nil))))))⟩,⟨_,rfl,z7 (.same rfl)⟩,trivial⟩)
  have D1:Ctx c (wb c w (jL aH one fj tail i5 jN)) J 130 (Y.deeper X) (ownOf X++F) [] s1 ⟨.nil,0⟩ ⟨i9,.none⟩ ⟨A8 (dk up (cD (.tok 20))),[]⟩ X:=⟨C1.room.le (by decide),S1,G1⟩
  refine aO (ku (R0 _).ex (jH.take 3) [] s1 ⟨.nil,0⟩ ⟨A8 (dk up (cD (.tok 20))),[]⟩ FV D1 h1 _ _ λf1 bq jF aZ aS p1=>?_)
  obtain⟨g1,fq,bM,e1,S2,G2,sA⟩:=p1
  obtain⟨rfl,i,nm,gl,dd,r,z1,z2,bd,a,b,ub,gb,eR,v4,v5,v7,v6,v0,v1,v3,m1,m2,m3,c1,c2,m4,m5,nd⟩:=YZ e1
  have sA:f1=.next:=sA
  rw [sA]
  injection eR with eR
  injection eR with UD eR
  injection eR with ea eR
  injection eR with eb eR
  subst UD ea eb
  have G2:dm c (wb c w (jL aH one fj tail i5 jN)) (ownOf X++F) bq jF i9 fq.vars X:=G2
  obtain⟨a0,a1,a2,a3,a4,p0,p1,p2,p3,p4⟩:CT bq i dd r nm gl:=by
   have lt:∀{j k:H} {y:ar},i9[j]?=some (y,qC)->fq.vars[j]?=some (some (.ref k))->k<bq.length:=λe1 e2=>by
    refine ay G2.loc λm _ hv=>?_
    refine ay (hv _ _ _ e1 e2) λv _ x=>?_
    refine ay x λz e _=>?_
    exact(eM.mp e).1
   exact ab2 S2 (lt YW v4) (lt YX v5) (lt YY v7) m1 m2
  have HQ:∀z∈[a0,a1,a2,a3,a4],z∈bq:=λz hz=>by
   simp only [bY,eP,gH] at hz
   rcases hz with rfl|rfl|rfl|rfl|rfl
   .exact dy p0
   .exact dy p1
   .exact dy p2
   .exact dy p3
   .exact dy p4
  have S3:St c (wb c w (aU aH)) J (ownOf X++F) [a0,a1,a2,a3,a4] (stM x y) jF:=aa_ S2 m1 m2 m3 c1 c2 m4 m5 nd p0 p1 p2 p3 p4
  have S4:=adR (aJ:=kc aH x y x' y' one (.tup [du,fj,tail])) (a':=.tok 1) (b':=.tok 2) S3 (.eT kx.1 kx.2 rfl) (.eT ky.1 ky.2 rfl)
  have tG:bh (ownOf X) [] s1.heap [a0,a1,a2,a3,a4] jF:=bh.cut aS HQ (wC)
  have DO:∀{m m':D},Cv (jL aH one fj tail i5 jN) (kc aH x y x' y' one (.tup [du,fj,tail])) bM (λ_=>.none) (λ_=>dP) m m'->∀v,VR c (wb c w (jL aH one fj tail i5 jN)) (ownOf X++F) bq jF m v->VR c (wb c w (kc aH x y x' y' one (.tup [du,fj,tail]))) (ownOf X++F) [a0,a1,a2,a3,a4] jF m' v:=λI v x=>xe S2 HQ I x
  have G3:dm c (wb c w (kc aH x y x' y' one (.tup [du,fj,tail]))) (ownOf X++F) [a0,a1,a2,a3,a4] jF i9 (A9 (.tok 11)) X:=by
   have b6:∀v,VR c (wb c w (jL aH one fj tail i5 jN)) (ownOf X++F) bq jF (.tup [du,.tok 12,.tok 13]) v->VR c (wb c w (kc aH x y x' y' one (.tup [du,fj,tail]))) (ownOf X++F) [a0,a1,a2,a3,a4] jF (.tok 11) v:=λv x=>by
    have x1:VR c (wb c w (aU aH)) (ownOf X++F) [a0,a1,a2,a3,a4] jF (.tup [du,fj,tail]) v:=xe (aJ:=aU aH) S2 HQ (.tup (.cons (.same rfl) (.cons (.fe rfl) (.cons (.fe rfl) .nil)))) x
    have pb:bC (.tup [du,fj,tail])=true:=by
     rw [<-fB,nG]
     refine(?_:(bE du&&(bE fj&&(bE tail&&true)))=true)
     rw [fB,fB,fB,q4,q5];rfl
    exact⟨_,rfl,pb,rfl,x1.chg (w:=wb c w (aU aH)) (w':=w0 w) rfl (aN.mp pb).2⟩
   exact G2.weak gF (Gr (P:=λi m'=>∃m,fq.vars[i]?=some (some m)/\∀v,VR c (wb c w (jL aH one fj tail i5 jN)) (ownOf X++F) bq jF m v->VR c (wb c w (kc aH x y x' y' one (.tup [du,fj,tail]))) (ownOf X++F) [a0,a1,a2,a3,a4] jF m' v)
    ⟨⟨_,v0,DO (.gZ rfl rfl)⟩,⟨_,v1,DO (.gZ rfl rfl)⟩,⟨_,v3,DO (.same rfl)⟩,⟨_,v4,λv x=>yS (j:=0) p0 rfl x⟩,⟨_,v5,λv x=>yS (j:=3) p3 rfl x⟩,⟨_,v6,b6⟩,⟨_,v7,λv x=>yS (j:=4) p4 rfl x⟩,trivial⟩)
  have D2:Ctx c (wb c w (kc aH x y x' y' one (.tup [du,fj,tail]))) J 90 (Y.deeper X) (ownOf X++F) [a0,a1,a2,a3,a4] {s1 with heap:=jF,toks:=aZ} (stM (.tok 1) (.tok 2)) ⟨i9,.none⟩ ⟨A9 (.tok 11),[]⟩ X:=⟨C1.room.le (by decide),S4,G3⟩
  refine(?_:bo _ _ (iH ((jH.drop 3).take 1++jH.drop 4) X) _ _ _)
  rw [uJ]
  refine aO (ku (R1 _).ex ((jH.drop 3).take 1) [a0,a1,a2,a3,a4] _ (stM (.tok 1) (.tok 2)) ⟨A9 (.tok 11),[]⟩ (FW res) D2 h4 _ _ λf2 bf jh bS bp abl=>?_)
  obtain⟨g2,kE,dz,e2,S5,G5,sC⟩:=abl
  obtain⟨rfl,n0,n1,n2,⟨ag8,n3⟩,u0,u5,ae2⟩:=Y2 e2
  have sC:f2=.next:=sC
  subst sC
  have G5:dm c (wb c w (kc aH x y x' y' one (.tup [du,fj,tail]))) (ownOf X++F) bf jh i9 kE.vars X:=G5
  have S6:St c (wb c w (aU aH)) J (ownOf X++F) [a0,a1,a2,a3] (vS x' y') jh:=Tz (x:=x') (y:=y') S5 bp.pre rfl n0 n1 n2 n3 rfl rfl
  have Hf:[a0,a1,a2,a3]<+:bf:=(Q7 4 [a0,a1,a2,a3,a4]).trans bp.pre
  have OZ:∀z∈[a0,a1,a2,a3],z∈bf:=λz hz=>Hf.subset hz
  have KD:∀{m m':D},Cv (kc aH x y x' y' one (.tup [du,fj,tail])) (aU aH) dz (λ_=>.none) (λ_=>dP) m m'->∀v,VR c (wb c w (kc aH x y x' y' one (.tup [du,fj,tail]))) (ownOf X++F) bf jh m v->VR c (wb c w (aU aH)) (ownOf X++F) [a0,a1,a2,a3] jh m' v:=λI v x=>xe S5 OZ I x
  have g0:bf[0]?=some a0:=by rw [ja Hf (by decide:0<4)];rfl
  have g3:bf[3]?=some a3:=by rw [ja Hf (by decide:3<4)];rfl
  have G6:dm c (wb c w (aU aH)) (ownOf X++F) [a0,a1,a2,a3] jh i9 (A_ (found res)) X:=by
   have SD:∀v,VR c (wb c w (kc aH x y x' y' one (.tup [du,fj,tail]))) (ownOf X++F) bf jh (found res) v->VR c (wb c w (aU aH)) (ownOf X++F) [a0,a1,a2,a3] jh (found res) v:=λv x=>by
    cases res with
    |true=>exact yS (j:=0) g0 rfl x
    |false=>exact KD (.same rfl) v x
   exact G5.weak gF (Gr (P:=λi m'=>∃m,kE.vars[i]?=some (some m)/\∀v,VR c (wb c w (kc aH x y x' y' one (.tup [du,fj,tail]))) (ownOf X++F) bf jh m v->VR c (wb c w (aU aH)) (ownOf X++F) [a0,a1,a2,a3] jh m' v)
    ⟨⟨_,u0,KD (.gZ rfl rfl)⟩,⟨_,u5,λv x=>yS (j:=3) g3 rfl x⟩,⟨_,ae2,SD⟩,trivial⟩)
  have D3:Ctx c (wb c w (aU aH)) J 120 (Y.deeper X) (ownOf X++F) [a0,a1,a2,a3] {s1 with heap:=jh,toks:=bS} (vS x' y') ⟨i9,.none⟩ ⟨A_ (found res),[]⟩ X:=⟨C1.room.le (by decide),S6,G6⟩
  refine(?_:bo _ _ (iH (jH.drop 4) X) _ _ _)
  refine ku (R2 _).ex (jH.drop 4) [a0,a1,a2,a3] _ (vS x' y') ⟨A_ (found res),[]⟩ FX D3 h5 _ _ λf3 dY xN ey dp abm=>?_
  obtain⟨agl,pM,hM,e3,S7,G7,sD⟩:=abm
  refine ay (Y3 e3) λm aI hm=>?_;subst aI
  have HI:bh (ownOf X) [] s1.heap [a0,a1,a2,a3] jh:=bh.cut (tG.trans bp) OZ (wC)
  exact q f3 dY xN ey (HI.trans dp) ⟨.ret m,pM,hM,hm,S7,G7,sD⟩
 .obtain⟨m,br,km,S',xm⟩:=pv
  refine q v ao M tk st ?_
  rcases km with⟨rfl,rfl⟩|⟨i,R,rfl,e1,e2,e3,rfl⟩
  .exact .inl ⟨rfl,xm⟩
  .refine ay xm ?_;clear xm;intro ad ea aE;subst aE
   refine .inr ⟨ad,R,hJ R,rfl,?_,rfl,FG e2,e3,?_⟩
   .cases z:s.heap.get? ad with
    |none=>rfl
    |some ob=>exact bP (dy ea) (st.out ad ob z (λz=>nomatch z)).2
   .refine gR.ok (aJ:=aU aH) S' (β:=λ_=>.none) (FZ:=λ_=>dP) (λ_ _ _ e=>by exact aB e) (λb E _ sf=>⟨sf.1,λz=>sf.2 ?_⟩) (λ_ _ z=>z.elim) (.dict rfl (iw λz hz=>?_)) (S'.ref ea e1)
    .rw [cA.mp z];exact dy ea
    .refine ay (cF.mp hz) λp hp aE=>?_;subst aE
     exact e3 p hp
end
theorem VJ:cz.fn 277=some ⟨4,[],.While dK.1 dK.2 [] wpS::tA,gx⟩:=by kernel_rfl
theorem adS:tI ⟨4,[],.While dK.1 dK.2 [] wpS::tA,gx⟩ [.ref 0,.ref 2,.ref 3,.ref 6]=some gY.vars:=by kernel_rfl
theorem UT:∀f wr,Il WS 60 gx dK.1 dK.2 (stH f [] wr (.tok 1) (.tok 2))=some ⟨true,.fuel f,[],.tok 1,.tok 2,iA wr⟩:=λf wr=>by kernel_rfl
noncomputable def vP(lo up:G D):D:=side 2 lo up false
noncomputable def zb(y:D):Prop:=∃lo up,y=vP lo up
section
variable{c:a_}{w:dF}{J:aP}{K:b8}{mg mb:ar->aa aw}
theorem aeZ(hy:zb y):uk c w (tabS aH x y) Pg:=by
 intro i m e
 have e':@bN (λ_=>aa D) (@bN (λ_=>aa D) .none (some HA) (bA i 2)) (some aH) (bA i 0)=some m:=e
 generalize I:bA i 0=ax at e'
 cases ax with
 |true=>
  cases e'
  rw [dU I]
  exact⟨_,rfl,λF C h v x1=>x1.chg (w:=w0 w) (w':=wb c w (tabS aH x y)) rfl (by kernel_rfl)⟩
 |false=>
  generalize c2:bA i 2=ax at e'
  cases ax with
  |false=>exact aB e'
  |true=>
   cases e'
   rw [dU c2]
   refine⟨_,rfl,λF C h v x1=>?_⟩
   refine gK hy ?_;clear hy;intro lo up aE;subst aE
   unfold vP side at x1
   unfold HA
   obtain⟨a,d,V,e,f,f',g,g',b1,yv⟩:=x1
   replace yv:=yv.cj;obtain⟨v0,r,rfl,y1,yv⟩:=yv
   replace yv:=yv.cj;obtain⟨v1,r,rfl,y2,yv⟩:=yv
   replace yv:=yv.cj;obtain⟨v2,r,rfl,y3,yv⟩:=yv
   replace yv:=yv.cj;obtain⟨v3,r,rfl,y4,yv⟩:=yv
   replace yv:=yv.cj;obtain⟨v4,r,rfl,y5,yv⟩:=yv
   rw [yv.dW] at g'
   refine⟨a,d,[v0,v1,v2,v3,v4],e,f,f',g,g',rfl,?_⟩
   have any:∀{v:aw},VR c (wb c w (tabS aH x (vP lo up))) F C h .any v:=by intro v;trivial
   exact .cons (y1.chg (w:=w0 w) (w':=wb c w (tabS aH x (vP lo up))) rfl rfl) (.cons (y2.chg (w:=w0 w) (w':=wb c w (tabS aH x (vP lo up))) rfl rfl) (.cons any (.cons any (.one (y5.chg (w:=w0 w) (w':=wb c w (tabS aH x (vP lo up))) rfl rfl)))))
theorem adf(aV:Base c w K cz J mg mb)(ch:Ends zb c w J aH WE 60 gx dK.1 dK.2 tA [g] x y k p oc)(gh:cR x=true)(gi:cR y=true)(hk:k<=60)(hm:p<=390)(hb:∀R B x' y',oc=.bad R B x' y'->p=0)
  (Y:bG) (F C:G aA) (s:aT) (a0 a2 a3 a6:aA) (room:eY 70 Y) (S:St c (wb c w (aU aH)) J F C (stH 4000 [g] (dh 0 .any) x y) s.heap) (e0:C[0]?=some a0) (e2:C[2]?=some a2) (e3:C[3]?=some a3) (e6:C[6]?=some a6):
  bc c (wb c w (aU aH)) Y [] C s (call (.ref 277) [.ref a0,.ref a2,.ref a3,.ref a6]) (λv ao M=>C<+:ao/\zA c w J aH F ao 3900 p oc v M):=by
 obtain⟨E,fd,dv,Fi⟩:=aV.fn (aL:=aU aH) VJ
 have T:=aV.top (aL:=aU aH) (gX:=λ_ _ _=>.none) (tv:=ke) (eq:=λ_ _=>.none) (pull:=0) (kY rfl) hN
 have:=ade (m:=0) T Fi rfl rfl adS (g9:=zb) (λx y bu _ hy=>aV.sound (aeZ hy) hN lM (.inl jD) (De bu) 60) ch gh gi (fb:=3900) (by lia) (by simp only [iQ,rM];lia) (by lia) (λR B x' y' e=>by have:=hb R B x' y' e;lia) (room.le (by decide)) S e0 e2 e3 e6
 rw [uh] at this
 exact this
theorem DG(aV:Base c w K cz J mg mb)(ch:Chain WS 60 gx dK.1 dK.2 left x y k p E)(pl:∀z∈left,bC z=true):je c w J aH 60 gx dK.1 dK.2 left x y k p E:=
 TG (λx y bu=>aV.sound (kY rfl) hN lM (.inl jD) (De bu) 60) (λx y bu=>aV.sound (kY rfl) hN lM (.inl jD) (So bu) 60) UT ch pl
end
structure fN where
 g:D
 sT:aa (G D×G D)
 sN:aa (G D×G D)
 fl:ah
 subs:G D
 lU:aa (G D×G D)
 lR:aa (G D×G D)
 p:H
noncomputable def qk(E:aa (G D×G D))(d:ah):D:=match E with
 |some q=>side 1 q.1 q.2 d
 |.none=>.tok 1
noncomputable def qj(E:aa (G D×G D)):D:=match E with
 |some q=>side 2 q.1 q.2 false
 |.none=>.tok 2
noncomputable def oR(f:H)(aY wr:G D)(d:ah)(r:fN):aa Lk:=tn (stH (cX f) (r.g::aY) wr (qk r.sT d) (qj r.sN))
noncomputable def oA(f:H)(aY wr:G D)(d:ah)(r:fN):aa Lk:=some ⟨r.fl,.fuel f,r.subs++aY,qk r.lU d,qj r.lR,iA wr+r.p⟩
noncomputable def HZ:G fN:=[
 ⟨sub aC vT,some ([],[]),.none,true,[],some ([aC],[]),.none,0⟩,
 ⟨sub ai vT,some ([],[]),.none,true,[],some ([ai],[]),.none,0⟩,
 ⟨sub bF vT,some ([],[]),.none,true,[],some ([bF],[]),.none,0⟩,
 ⟨sub j0 ak,.none,.none,true,[],.none,.none,0⟩,
 ⟨sub aC vT,some ([],[ak]),.none,true,[sub aC ak],some ([aC],[ak]),.none,0⟩,
 ⟨sub aC ak,.none,.none,true,[],.none,.none,0⟩,
 ⟨sub aF vT,some ([],[ak]),.none,true,[sub aF ak],some ([aF],[ak]),.none,0⟩,
 ⟨sub aF ak,.none,.none,false,[],.none,.none,0⟩,
 ⟨sub ai vT,some ([],[ak]),.none,true,[sub ai ak],some ([ai],[ak]),.none,0⟩,
 ⟨sub ai ak,.none,.none,true,[],.none,.none,0⟩,
 ⟨sub bF vT,some ([],[ak]),.none,true,[sub bF ak],some ([bF],[ak]),.none,0⟩,
 ⟨sub bF ak,.none,.none,true,[],.none,.none,0⟩,
 ⟨sub aC vT,some ([],[aK]),.none,true,[sub aC aK],some ([aC],[aK]),.none,0⟩,
 ⟨sub aC aK,.none,.none,true,[],.none,.none,0⟩,
 ⟨sub aF vT,some ([],[aK]),.none,true,[sub aF aK],some ([aF],[aK]),.none,0⟩,
 ⟨sub aF aK,.none,.none,false,[],.none,.none,0⟩,
 ⟨sub ai vT,some ([],[aK]),.none,true,[sub ai aK],some ([ai],[aK]),.none,0⟩,
 ⟨sub ai aK,.none,.none,true,[],.none,.none,0⟩,
 ⟨sub bF vT,some ([],[aK]),.none,true,[sub bF aK],some ([bF],[aK]),.none,0⟩,
 ⟨sub bF aK,.none,.none,true,[],.none,.none,0⟩,
 ⟨sub (arr aC (num 1)) (arr vT (num 1)),.none,.none,true,[same (num 1) (num 1),same aC vT],.none,.none,0⟩,
 ⟨same (num 1) (num 1),.none,.none,true,[],.none,.none,0⟩,
 ⟨same aC vT,.none,.none,true,[sub vT aC,sub aC vT],.none,.none,0⟩,
 ⟨sub vT aC,some ([],[]),.none,true,[],some ([],[aC]),.none,0⟩,
 ⟨sub aC vT,some ([],[aC]),.none,true,[sub aC aC],some ([aC],[aC]),.none,0⟩]
noncomputable def H0:G fN:=[
 ⟨sub aC aC,.none,.none,true,[],.none,.none,0⟩,
 ⟨sub aF (arr vT (num 1)),.none,.none,false,[],.none,.none,0⟩,
 ⟨sub (arr ai (num 1)) (arr vT (num 1)),.none,.none,true,[same (num 1) (num 1),same ai vT],.none,.none,0⟩,
 ⟨same ai vT,.none,.none,true,[sub vT ai,sub ai vT],.none,.none,0⟩,
 ⟨sub vT ai,some ([],[]),.none,true,[],some ([],[ai]),.none,0⟩,
 ⟨sub ai vT,some ([],[ai]),.none,true,[sub ai ai],some ([ai],[ai]),.none,0⟩,
 ⟨sub ai ai,.none,.none,true,[],.none,.none,0⟩,
 ⟨sub (arr ak (num 1)) (arr vT (num 1)),.none,.none,true,[same (num 1) (num 1),same ak vT],.none,.none,0⟩,
 ⟨same ak vT,.none,.none,true,[sub vT ak,sub ak vT],.none,.none,0⟩,
 ⟨sub vT ak,some ([],[]),.none,true,[],some ([],[ak]),.none,0⟩,
 ⟨sub ak vT,some ([],[ak]),.none,true,[sub ak ak],some ([ak],[ak]),.none,0⟩,
 ⟨sub ak ak,.none,.none,true,[],.none,.none,0⟩,
 ⟨sub (arr af (num 1)) (arr vT (num 1)),.none,.none,true,[same (num 1) (num 1),same af vT],.none,.none,0⟩,
 ⟨same af vT,.none,.none,true,[sub vT af,sub af vT],.none,.none,0⟩,
 ⟨sub vT af,some ([],[]),.none,true,[],some ([],[af]),.none,0⟩,
 ⟨sub af vT,some ([],[af]),.none,true,[sub af af],some ([af],[af]),.none,0⟩,
 ⟨sub af af,.none,.none,true,[],.none,.none,0⟩,
 ⟨sub vT aC,some ([],[ak]),.none,true,[],some ([],[ak,aC]),.none,0⟩,
 ⟨sub aC vT,some ([],[ak,aC]),.none,true,[sub aC aC,sub aC ak],some ([aC],[ak,aC]),.none,0⟩,
 ⟨sub vT ai,some ([],[ak]),.none,true,[],some ([],[ak,ai]),.none,0⟩,
 ⟨sub ai vT,some ([],[ak,ai]),.none,true,[sub ai ai,sub ai ak],some ([ai],[ak,ai]),.none,0⟩,
 ⟨sub vT ak,some ([],[ak]),.none,true,[],some ([],[ak]),.none,0⟩,
 ⟨sub vT af,some ([],[ak]),.none,true,[],some ([],[ak,af]),.none,0⟩,
 ⟨sub af vT,some ([],[ak,af]),.none,true,[sub af af,sub af ak],some ([af],[ak,af]),.none,0⟩,
 ⟨sub af ak,.none,.none,true,[sub aC ak,sub ai ak],.none,.none,0⟩]
noncomputable def H3:G fN:=[
 ⟨sub vT aC,some ([],[aK]),.none,true,[],some ([],[aK,aC]),.none,0⟩,
 ⟨sub aC vT,some ([],[aK,aC]),.none,true,[sub aC aC,sub aC aK],some ([aC],[aK,aC]),.none,0⟩,
 ⟨sub vT ai,some ([],[aK]),.none,true,[],some ([],[aK,ai]),.none,0⟩,
 ⟨sub ai vT,some ([],[aK,ai]),.none,true,[sub ai ai,sub ai aK],some ([ai],[aK,ai]),.none,0⟩,
 ⟨sub vT ak,some ([],[aK]),.none,true,[],some ([],[aK,ak]),.none,0⟩,
 ⟨sub ak vT,some ([],[aK,ak]),.none,true,[sub ak ak,sub ak aK],some ([ak],[aK,ak]),.none,0⟩,
 ⟨sub ak aK,.none,.none,true,[],.none,.none,0⟩,
 ⟨sub vT af,some ([],[aK]),.none,true,[],some ([],[aK,af]),.none,0⟩,
 ⟨sub af vT,some ([],[aK,af]),.none,true,[sub af af,sub af aK],some ([af],[aK,af]),.none,0⟩,
 ⟨sub af aK,.none,.none,true,[sub aC aK,sub ai aK],.none,.none,0⟩,
 ⟨sub (arr aC (num 1)) (arr vT vN),.none,.none,true,[same (num 1) vN,same aC vT],.none,.none,0⟩,
 ⟨same (num 1) vN,.none,some ([],[]),true,[sub vN (num 1),sub (num 1) vN],.none,some ([],[]),0⟩,
 ⟨sub vN (num 1),.none,some ([],[]),true,[],.none,some ([],[(num 1)]),0⟩,
 ⟨sub (num 1) vN,.none,some ([],[(num 1)]),true,[sub (num 1) (num 1)],.none,some ([(num 1)],[(num 1)]),0⟩,
 ⟨sub (num 1) (num 1),.none,.none,true,[],.none,.none,0⟩,
 ⟨sub aF (arr vT vN),.none,.none,false,[],.none,.none,0⟩,
 ⟨sub (arr aC (num 2)) (arr vT vN),.none,.none,true,[same (num 2) vN,same aC vT],.none,.none,0⟩,
 ⟨same (num 2) vN,.none,some ([],[]),true,[sub vN (num 2),sub (num 2) vN],.none,some ([],[]),0⟩,
 ⟨sub vN (num 2),.none,some ([],[]),true,[],.none,some ([],[(num 2)]),0⟩,
 ⟨sub (num 2) vN,.none,some ([],[(num 2)]),true,[sub (num 2) (num 2)],.none,some ([(num 2)],[(num 2)]),0⟩,
 ⟨sub (num 2) (num 2),.none,.none,true,[],.none,.none,0⟩,
 ⟨sub (arr aC (num 3)) (arr vT vN),.none,.none,true,[same (num 3) vN,same aC vT],.none,.none,0⟩,
 ⟨same (num 3) vN,.none,some ([],[]),true,[sub vN (num 3),sub (num 3) vN],.none,some ([],[]),0⟩,
 ⟨sub vN (num 3),.none,some ([],[]),true,[],.none,some ([],[(num 3)]),0⟩,
 ⟨sub (num 3) vN,.none,some ([],[(num 3)]),true,[sub (num 3) (num 3)],.none,some ([(num 3)],[(num 3)]),0⟩]
noncomputable def H4:G fN:=[
 ⟨sub (num 3) (num 3),.none,.none,true,[],.none,.none,0⟩,
 ⟨sub (arr ai (num 1)) (arr vT vN),.none,.none,true,[same (num 1) vN,same ai vT],.none,.none,0⟩,
 ⟨sub (arr ai (num 2)) (arr vT vN),.none,.none,true,[same (num 2) vN,same ai vT],.none,.none,0⟩,
 ⟨sub (arr ai (num 3)) (arr vT vN),.none,.none,true,[same (num 3) vN,same ai vT],.none,.none,0⟩,
 ⟨sub (arr ak (num 1)) (arr vT vN),.none,.none,true,[same (num 1) vN,same ak vT],.none,.none,0⟩,
 ⟨sub (arr ak (num 2)) (arr vT vN),.none,.none,true,[same (num 2) vN,same ak vT],.none,.none,0⟩,
 ⟨sub (arr ak (num 3)) (arr vT vN),.none,.none,true,[same (num 3) vN,same ak vT],.none,.none,0⟩,
 ⟨sub (arr af (num 1)) (arr vT vN),.none,.none,true,[same (num 1) vN,same af vT],.none,.none,0⟩,
 ⟨sub (arr af (num 2)) (arr vT vN),.none,.none,true,[same (num 2) vN,same af vT],.none,.none,0⟩,
 ⟨sub (arr af (num 3)) (arr vT vN),.none,.none,true,[same (num 3) vN,same af vT],.none,.none,0⟩,
 ⟨sub (gz aC) (gz vT),.none,.none,true,[same aC vT],.none,.none,0⟩,
 ⟨sub aF (gz vT),.none,.none,false,[],.none,.none,0⟩,
 ⟨sub (gz ai) (gz vT),.none,.none,true,[same ai vT],.none,.none,0⟩,
 ⟨sub (gz ak) (gz vT),.none,.none,true,[same ak vT],.none,.none,0⟩,
 ⟨sub (gz af) (gz vT),.none,.none,true,[same af vT],.none,.none,0⟩,
 ⟨sub (gP aC aC) (gP vT aC),.none,.none,true,[sub aC aC,sub aC vT],.none,.none,0⟩,
 ⟨sub aF (gP vT aC),.none,.none,false,[],.none,.none,0⟩,
 ⟨sub (gP ai aC) (gP vT aC),.none,.none,true,[sub aC aC,sub ai vT],.none,.none,0⟩,
 ⟨sub (gP bF aC) (gP vT aC),.none,.none,true,[sub aC aC,sub bF vT],.none,.none,0⟩,
 ⟨sub aC vT,some ([aC],[]),.none,true,[],some ([aC],[]),.none,0⟩,
 ⟨sub aF vT,some ([],[]),.none,true,[],some ([aF],[]),.none,0⟩,
 ⟨sub aC vT,some ([aF],[]),.none,true,[],some ([aF,aC],[]),.none,0⟩,
 ⟨sub ai vT,some ([ai],[]),.none,true,[],some ([ai],[]),.none,0⟩,
 ⟨sub ai vT,some ([aF],[]),.none,true,[],some ([aF,ai],[]),.none,0⟩,
 ⟨sub bF vT,some ([bF],[]),.none,true,[],some ([bF],[]),.none,0⟩]
noncomputable def H6:G fN:=[
 ⟨sub bF vT,some ([aF],[]),.none,true,[],some ([aF,bF],[]),.none,0⟩,
 ⟨sub aC vT,some ([aC],[ak]),.none,true,[],some ([aC],[ak]),.none,0⟩,
 ⟨sub ai vT,some ([ai],[ak]),.none,true,[],some ([ai],[ak]),.none,0⟩,
 ⟨sub bF vT,some ([bF],[ak]),.none,true,[],some ([bF],[ak]),.none,0⟩,
 ⟨sub aC vT,some ([aC],[aK]),.none,true,[],some ([aC],[aK]),.none,0⟩,
 ⟨sub ai vT,some ([ai],[aK]),.none,true,[],some ([ai],[aK]),.none,0⟩,
 ⟨sub bF vT,some ([bF],[aK]),.none,true,[],some ([bF],[aK]),.none,0⟩,
 ⟨sub aC vT,some ([aC],[aC]),.none,true,[],some ([aC],[aC]),.none,0⟩,
 ⟨sub ai vT,some ([ai],[ai]),.none,true,[],some ([ai],[ai]),.none,0⟩,
 ⟨sub bF vT,some ([ak],[ak]),.none,true,[sub bF ak],some ([ak,bF],[ak]),.none,0⟩,
 ⟨sub ai vT,some ([af],[af]),.none,true,[sub ai af],some ([af,ai],[af]),.none,0⟩,
 ⟨sub ai af,.none,.none,true,[sub ai ai],.none,.none,1⟩,
 ⟨sub aC vT,some ([aC],[ak,aC]),.none,true,[],some ([aC],[ak,aC]),.none,0⟩,
 ⟨sub aF vT,some ([aC],[ak,aC]),.none,true,[sub aF aC,sub aF ak],some ([aC,aF],[ak,aC]),.none,0⟩,
 ⟨sub aF aC,.none,.none,false,[],.none,.none,0⟩,
 ⟨sub ai vT,some ([ai],[ak,ai]),.none,true,[],some ([ai],[ak,ai]),.none,0⟩,
 ⟨sub aF vT,some ([ai],[ak,ai]),.none,true,[sub aF ai,sub aF ak],some ([ai,aF],[ak,ai]),.none,0⟩,
 ⟨sub aF ai,.none,.none,false,[],.none,.none,0⟩,
 ⟨sub aF vT,some ([ak],[ak]),.none,true,[sub aF ak],some ([ak,aF],[ak]),.none,0⟩,
 ⟨sub ai vT,some ([af],[ak,af]),.none,true,[sub ai af,sub ai ak],some ([af,ai],[ak,af]),.none,0⟩,
 ⟨sub aF vT,some ([af],[ak,af]),.none,true,[sub aF af,sub aF ak],some ([af,aF],[ak,af]),.none,0⟩,
 ⟨sub aF af,.none,.none,true,[sub aF ai],.none,.none,1⟩,
 ⟨sub aC vT,some ([aC],[aK,aC]),.none,true,[],some ([aC],[aK,aC]),.none,0⟩,
 ⟨sub aF vT,some ([aC],[aK,aC]),.none,true,[sub aF aC,sub aF aK],some ([aC,aF],[aK,aC]),.none,0⟩,
 ⟨sub ai vT,some ([ai],[aK,ai]),.none,true,[],some ([ai],[aK,ai]),.none,0⟩]
noncomputable def H7:G fN:=[
 ⟨sub aF vT,some ([ai],[aK,ai]),.none,true,[sub aF ai,sub aF aK],some ([ai,aF],[aK,ai]),.none,0⟩,
 ⟨sub bF vT,some ([ak],[aK,ak]),.none,true,[sub bF ak,sub bF aK],some ([ak,bF],[aK,ak]),.none,0⟩,
 ⟨sub aF vT,some ([ak],[aK,ak]),.none,true,[sub aF ak,sub aF aK],some ([ak,aF],[aK,ak]),.none,0⟩,
 ⟨sub ai vT,some ([af],[aK,af]),.none,true,[sub ai af,sub ai aK],some ([af,ai],[aK,af]),.none,0⟩,
 ⟨sub aF vT,some ([af],[aK,af]),.none,true,[sub aF af,sub aF aK],some ([af,aF],[aK,af]),.none,0⟩,
 ⟨sub aF vT,some ([aC],[ak]),.none,true,[sub aF ak],some ([aC,aF],[ak]),.none,0⟩,
 ⟨sub aF vT,some ([ai],[ak]),.none,true,[sub aF ak],some ([ai,aF],[ak]),.none,0⟩,
 ⟨sub aF vT,some ([bF],[ak]),.none,true,[sub aF ak],some ([bF,aF],[ak]),.none,0⟩,
 ⟨sub aF vT,some ([aC],[aK]),.none,true,[sub aF aK],some ([aC,aF],[aK]),.none,0⟩,
 ⟨sub aF vT,some ([ai],[aK]),.none,true,[sub aF aK],some ([ai,aF],[aK]),.none,0⟩,
 ⟨sub aF vT,some ([bF],[aK]),.none,true,[sub aF aK],some ([bF,aF],[aK]),.none,0⟩,
 ⟨sub vT aC,some ([aC],[]),.none,true,[sub aC aC],some ([aC],[aC]),.none,0⟩,
 ⟨sub vT ai,some ([ai],[]),.none,true,[sub ai ai],some ([ai],[ai]),.none,0⟩,
 ⟨sub vT ak,some ([bF],[]),.none,true,[sub bF ak],some ([bF],[ak]),.none,0⟩,
 ⟨sub ak vT,some ([bF],[ak]),.none,true,[sub ak ak],some ([bF,ak],[ak]),.none,0⟩,
 ⟨sub vT af,some ([ai],[]),.none,true,[sub ai af],some ([ai],[af]),.none,0⟩,
 ⟨sub af vT,some ([ai],[af]),.none,true,[sub af af],some ([ai,af],[af]),.none,0⟩,
 ⟨sub vT aC,some ([aC],[ak]),.none,true,[sub aC aC],some ([aC],[ak,aC]),.none,0⟩,
 ⟨sub vT ai,some ([ai],[ak]),.none,true,[sub ai ai],some ([ai],[ak,ai]),.none,0⟩,
 ⟨sub vT ak,some ([bF],[ak]),.none,true,[],some ([bF],[ak]),.none,0⟩,
 ⟨sub vT af,some ([ai],[ak]),.none,true,[sub ai af],some ([ai],[ak,af]),.none,0⟩,
 ⟨sub af vT,some ([ai],[ak,af]),.none,true,[sub af af,sub af ak],some ([ai,af],[ak,af]),.none,0⟩,
 ⟨sub vT aC,some ([aC],[aK]),.none,true,[sub aC aC],some ([aC],[aK,aC]),.none,0⟩,
 ⟨sub vT ai,some ([ai],[aK]),.none,true,[sub ai ai],some ([ai],[aK,ai]),.none,0⟩,
 ⟨sub vT ak,some ([bF],[aK]),.none,true,[sub bF ak],some ([bF],[aK,ak]),.none,0⟩]
noncomputable def H8:G fN:=[
 ⟨sub ak vT,some ([bF],[aK,ak]),.none,true,[sub ak ak,sub ak aK],some ([bF,ak],[aK,ak]),.none,0⟩,
 ⟨sub vT af,some ([ai],[aK]),.none,true,[sub ai af],some ([ai],[aK,af]),.none,0⟩,
 ⟨sub af vT,some ([ai],[aK,af]),.none,true,[sub af af,sub af aK],some ([ai,af],[aK,af]),.none,0⟩,
 ⟨sub vT aC,some ([aC],[aC]),.none,true,[],some ([aC],[aC]),.none,0⟩,
 ⟨sub vT ai,some ([ai],[ai]),.none,true,[],some ([ai],[ai]),.none,0⟩,
 ⟨sub vT ak,some ([ak],[ak]),.none,true,[],some ([ak],[ak]),.none,0⟩,
 ⟨sub ak vT,some ([ak],[ak]),.none,true,[],some ([ak],[ak]),.none,0⟩,
 ⟨sub vT af,some ([af],[af]),.none,true,[],some ([af],[af]),.none,0⟩,
 ⟨sub af vT,some ([af],[af]),.none,true,[],some ([af],[af]),.none,0⟩,
 ⟨sub vT aC,some ([aC],[ak,aC]),.none,true,[],some ([aC],[ak,aC]),.none,0⟩,
 ⟨sub vT ai,some ([ai],[ak,ai]),.none,true,[],some ([ai],[ak,ai]),.none,0⟩,
 ⟨sub vT af,some ([af],[ak,af]),.none,true,[],some ([af],[ak,af]),.none,0⟩,
 ⟨sub af vT,some ([af],[ak,af]),.none,true,[],some ([af],[ak,af]),.none,0⟩,
 ⟨sub vT aC,some ([aC],[aK,aC]),.none,true,[],some ([aC],[aK,aC]),.none,0⟩,
 ⟨sub vT ai,some ([ai],[aK,ai]),.none,true,[],some ([ai],[aK,ai]),.none,0⟩,
 ⟨sub vT ak,some ([ak],[aK,ak]),.none,true,[],some ([ak],[aK,ak]),.none,0⟩,
 ⟨sub ak vT,some ([ak],[aK,ak]),.none,true,[],some ([ak],[aK,ak]),.none,0⟩,
 ⟨sub vT af,some ([af],[aK,af]),.none,true,[],some ([af],[aK,af]),.none,0⟩,
 ⟨sub af vT,some ([af],[aK,af]),.none,true,[],some ([af],[aK,af]),.none,0⟩,
 ⟨same (num 1) vN,.none,some ([(num 1)],[(num 1)]),true,[sub vN (num 1),sub (num 1) vN],.none,some ([(num 1)],[(num 1)]),0⟩,
 ⟨sub vN (num 1),.none,some ([(num 1)],[(num 1)]),true,[],.none,some ([(num 1)],[(num 1)]),0⟩,
 ⟨sub (num 1) vN,.none,some ([(num 1)],[(num 1)]),true,[],.none,some ([(num 1)],[(num 1)]),0⟩,
 ⟨same (num 2) vN,.none,some ([(num 2)],[(num 2)]),true,[sub vN (num 2),sub (num 2) vN],.none,some ([(num 2)],[(num 2)]),0⟩,
 ⟨sub vN (num 2),.none,some ([(num 2)],[(num 2)]),true,[],.none,some ([(num 2)],[(num 2)]),0⟩,
 ⟨sub (num 2) vN,.none,some ([(num 2)],[(num 2)]),true,[],.none,some ([(num 2)],[(num 2)]),0⟩]
noncomputable def H9:G fN:=[
 ⟨same (num 3) vN,.none,some ([(num 3)],[(num 3)]),true,[sub vN (num 3),sub (num 3) vN],.none,some ([(num 3)],[(num 3)]),0⟩,
 ⟨sub vN (num 3),.none,some ([(num 3)],[(num 3)]),true,[],.none,some ([(num 3)],[(num 3)]),0⟩,
 ⟨sub (num 3) vN,.none,some ([(num 3)],[(num 3)]),true,[],.none,some ([(num 3)],[(num 3)]),0⟩,
 ⟨sub aC vT,some ([aF,aC],[]),.none,true,[],some ([aF,aC],[]),.none,0⟩,
 ⟨sub ai vT,some ([aF,ai],[]),.none,true,[],some ([aF,ai],[]),.none,0⟩,
 ⟨sub bF vT,some ([aF,bF],[]),.none,true,[],some ([aF,bF],[]),.none,0⟩,
 ⟨sub bF vT,some ([ak,bF],[ak]),.none,true,[],some ([ak,bF],[ak]),.none,0⟩,
 ⟨sub ai vT,some ([af,ai],[af]),.none,true,[],some ([af,ai],[af]),.none,0⟩,
 ⟨sub ai vT,some ([af,ai],[ak,af]),.none,true,[],some ([af,ai],[ak,af]),.none,0⟩,
 ⟨sub bF vT,some ([ak,bF],[aK,ak]),.none,true,[],some ([ak,bF],[aK,ak]),.none,0⟩,
 ⟨sub ai vT,some ([af,ai],[aK,af]),.none,true,[],some ([af,ai],[aK,af]),.none,0⟩,
 ⟨sub aF vT,some ([aC],[]),.none,true,[],some ([aC,aF],[]),.none,0⟩,
 ⟨sub aC vT,some ([aC,aF],[]),.none,true,[],some ([aC,aF],[]),.none,0⟩,
 ⟨sub aF vT,some ([ai],[]),.none,true,[],some ([ai,aF],[]),.none,0⟩,
 ⟨sub ai vT,some ([ai,aF],[]),.none,true,[],some ([ai,aF],[]),.none,0⟩,
 ⟨sub aF vT,some ([bF],[]),.none,true,[],some ([bF,aF],[]),.none,0⟩,
 ⟨sub bF vT,some ([bF,aF],[]),.none,true,[],some ([bF,aF],[]),.none,0⟩,
 ⟨sub bF vT,some ([bF,ak],[ak]),.none,true,[],some ([bF,ak],[ak]),.none,0⟩,
 ⟨sub ai vT,some ([ai,af],[af]),.none,true,[],some ([ai,af],[af]),.none,0⟩,
 ⟨sub ai vT,some ([ai,af],[ak,af]),.none,true,[],some ([ai,af],[ak,af]),.none,0⟩,
 ⟨sub bF vT,some ([bF,ak],[aK,ak]),.none,true,[],some ([bF,ak],[aK,ak]),.none,0⟩,
 ⟨sub ai vT,some ([ai,af],[aK,af]),.none,true,[],some ([ai,af],[aK,af]),.none,0⟩,
 ⟨sub aF vT,some ([bF,ak],[ak]),.none,true,[sub aF ak],some ([bF,ak,aF],[ak]),.none,0⟩,
 ⟨sub aF vT,some ([ai,af],[ak,af]),.none,true,[sub aF af,sub aF ak],some ([ai,af,aF],[ak,af]),.none,0⟩,
 ⟨sub aF vT,some ([bF,ak],[aK,ak]),.none,true,[sub aF ak,sub aF aK],some ([bF,ak,aF],[aK,ak]),.none,0⟩]
noncomputable def H_:G fN:=[
 ⟨sub aF vT,some ([ai,af],[aK,af]),.none,true,[sub aF af,sub aF aK],some ([ai,af,aF],[aK,af]),.none,0⟩,
 ⟨sub aF vT,some ([ak,bF],[ak]),.none,true,[sub aF ak],some ([ak,bF,aF],[ak]),.none,0⟩,
 ⟨sub aF vT,some ([af,ai],[ak,af]),.none,true,[sub aF af,sub aF ak],some ([af,ai,aF],[ak,af]),.none,0⟩,
 ⟨sub aF vT,some ([ak,bF],[aK,ak]),.none,true,[sub aF ak,sub aF aK],some ([ak,bF,aF],[aK,ak]),.none,0⟩,
 ⟨sub aF vT,some ([af,ai],[aK,af]),.none,true,[sub aF af,sub aF aK],some ([af,ai,aF],[aK,af]),.none,0⟩,
 ⟨sub vT ak,some ([ak,bF],[ak]),.none,true,[],some ([ak,bF],[ak]),.none,0⟩,
 ⟨sub ak vT,some ([ak,bF],[ak]),.none,true,[],some ([ak,bF],[ak]),.none,0⟩,
 ⟨sub vT af,some ([af,ai],[af]),.none,true,[],some ([af,ai],[af]),.none,0⟩,
 ⟨sub af vT,some ([af,ai],[af]),.none,true,[],some ([af,ai],[af]),.none,0⟩,
 ⟨sub vT af,some ([af,ai],[ak,af]),.none,true,[],some ([af,ai],[ak,af]),.none,0⟩,
 ⟨sub af vT,some ([af,ai],[ak,af]),.none,true,[],some ([af,ai],[ak,af]),.none,0⟩,
 ⟨sub vT ak,some ([ak,bF],[aK,ak]),.none,true,[],some ([ak,bF],[aK,ak]),.none,0⟩,
 ⟨sub ak vT,some ([ak,bF],[aK,ak]),.none,true,[],some ([ak,bF],[aK,ak]),.none,0⟩,
 ⟨sub vT af,some ([af,ai],[aK,af]),.none,true,[],some ([af,ai],[aK,af]),.none,0⟩,
 ⟨sub af vT,some ([af,ai],[aK,af]),.none,true,[],some ([af,ai],[aK,af]),.none,0⟩,
 ⟨sub vT ak,some ([bF,ak],[ak]),.none,true,[],some ([bF,ak],[ak]),.none,0⟩,
 ⟨sub ak vT,some ([bF,ak],[ak]),.none,true,[],some ([bF,ak],[ak]),.none,0⟩,
 ⟨sub vT af,some ([ai,af],[af]),.none,true,[],some ([ai,af],[af]),.none,0⟩,
 ⟨sub af vT,some ([ai,af],[af]),.none,true,[],some ([ai,af],[af]),.none,0⟩,
 ⟨sub vT af,some ([ai,af],[ak,af]),.none,true,[],some ([ai,af],[ak,af]),.none,0⟩,
 ⟨sub af vT,some ([ai,af],[ak,af]),.none,true,[],some ([ai,af],[ak,af]),.none,0⟩,
 ⟨sub vT ak,some ([bF,ak],[aK,ak]),.none,true,[],some ([bF,ak],[aK,ak]),.none,0⟩,
 ⟨sub ak vT,some ([bF,ak],[aK,ak]),.none,true,[],some ([bF,ak],[aK,ak]),.none,0⟩,
 ⟨sub vT af,some ([ai,af],[aK,af]),.none,true,[],some ([ai,af],[aK,af]),.none,0⟩,
 ⟨sub af vT,some ([ai,af],[aK,af]),.none,true,[],some ([ai,af],[aK,af]),.none,0⟩]
noncomputable def oY:G (G fN):=[HZ,H0,H3,H4,H6,H7,H8,H9,H_]
noncomputable def agj:G (G D×G D):=[
 ([aC],[]),
 ([ai],[]),
 ([bF],[]),
 ([aC],[ak]),
 ([ai],[ak]),
 ([bF],[ak]),
 ([aC],[aK]),
 ([ai],[aK]),
 ([bF],[aK]),
 ([aC],[aC]),
 ([ai],[ai]),
 ([ak],[ak]),
 ([af],[af]),
 ([aC],[ak,aC]),
 ([ai],[ak,ai]),
 ([af],[ak,af]),
 ([aC],[aK,aC]),
 ([ai],[aK,ai]),
 ([ak],[aK,ak]),
 ([af],[aK,af]),
 ([],[]),
 ([],[ak]),
 ([],[aK]),
 ([aF,aC],[]),
 ([aF,ai],[]),
 ([aF,bF],[]),
 ([ak,bF],[ak]),
 ([af,ai],[af]),
 ([af,ai],[ak,af]),
 ([ak,bF],[aK,ak]),
 ([af,ai],[aK,af]),
 ([bF,ak],[ak]),
 ([ai,af],[af]),
 ([ai,af],[ak,af]),
 ([bF,ak],[aK,ak]),
 ([ai,af],[aK,af]),
 ([aC,aF],[]),
 ([ai,aF],[]),
 ([bF,aF],[])]
theorem aev(f:H)(aY wr:G D)(d:ah):HZ.map (oR f aY wr d)=HZ.map (oA f aY wr d):=by kernel_rfl
theorem aew(f:H)(aY wr:G D)(d:ah):H0.map (oR f aY wr d)=H0.map (oA f aY wr d):=by kernel_rfl
theorem aex(f:H)(aY wr:G D)(d:ah):H3.map (oR f aY wr d)=H3.map (oA f aY wr d):=by kernel_rfl
theorem aey(f:H)(aY wr:G D)(d:ah):H4.map (oR f aY wr d)=H4.map (oA f aY wr d):=by kernel_rfl
theorem aez(f:H)(aY wr:G D)(d:ah):H6.map (oR f aY wr d)=H6.map (oA f aY wr d):=by kernel_rfl
theorem aeA(f:H)(aY wr:G D)(d:ah):H7.map (oR f aY wr d)=H7.map (oA f aY wr d):=by kernel_rfl
theorem aeB(f:H)(aY wr:G D)(d:ah):H8.map (oR f aY wr d)=H8.map (oA f aY wr d):=by kernel_rfl
theorem aeC(f:H)(aY wr:G D)(d:ah):H9.map (oR f aY wr d)=H9.map (oA f aY wr d):=by kernel_rfl
theorem aeD(f:H)(aY wr:G D)(d:ah):H_.map (oR f aY wr d)=H_.map (oA f aY wr d):=by kernel_rfl
structure rF where
 lo:G D
 up:G D
 told:aa D
 one:ah
noncomputable def fL:G rF:=[
 ⟨[aC],[],some aC,true⟩,
 ⟨[ai],[],some ai,true⟩,
 ⟨[bF],[],some bF,true⟩,
 ⟨[aC],[ak],some aC,true⟩,
 ⟨[ai],[ak],some ai,true⟩,
 ⟨[bF],[ak],some bF,true⟩,
 ⟨[aC],[aK],some aC,true⟩,
 ⟨[ai],[aK],some ai,true⟩,
 ⟨[bF],[aK],some bF,true⟩,
 ⟨[aC],[aC],some aC,true⟩,
 ⟨[ai],[ai],some ai,true⟩,
 ⟨[ak],[ak],some ak,false⟩,
 ⟨[af],[af],some af,false⟩,
 ⟨[aC],[ak,aC],some aC,true⟩,
 ⟨[ai],[ak,ai],some ai,true⟩,
 ⟨[af],[ak,af],some af,false⟩,
 ⟨[aC],[aK,aC],some aC,true⟩,
 ⟨[ai],[aK,ai],some ai,true⟩,
 ⟨[ak],[aK,ak],some ak,false⟩,
 ⟨[af],[aK,af],some af,false⟩,
 ⟨[],[],.none,true⟩,
 ⟨[],[ak],.none,true⟩,
 ⟨[],[aK],.none,true⟩,
 ⟨[ak,bF],[ak],some ak,false⟩,
 ⟨[af,ai],[af],some af,false⟩,
 ⟨[af,ai],[ak,af],some af,false⟩,
 ⟨[ak,bF],[aK,ak],some ak,false⟩,
 ⟨[af,ai],[aK,af],some af,false⟩,
 ⟨[bF,ak],[ak],some ak,false⟩,
 ⟨[ai,af],[af],some af,false⟩,
 ⟨[ai,af],[ak,af],some af,false⟩,
 ⟨[bF,ak],[aK,ak],some ak,false⟩,
 ⟨[ai,af],[aK,af],some af,false⟩]
noncomputable def gv(E:aa H):G D:=match E with
 |some i=>[num i]
 |.none=>[]
noncomputable def jI:G (aa H):=[.none,some 1,some 2,some 3]
noncomputable def sr(t:aa D)(E:aa H):D:=match t with
 |some k=>match E with
  |some i=>.aD (.dict [mK,nP]) [k,num i]
  |.none=>.aD (.dict [mK]) [k]
 |.none=>match E with
  |some i=>.aD (.dict [nP]) [num i]
  |.none=>.aD (.dict []) []
noncomputable def vX(d:ah)(f:H)(wr:G D)(r:rF):aa Lk:=v_ WE 60 gx tA (stH f [] wr (side 1 r.lo r.up d) (.tok 2))
noncomputable def uI(d:ah)(f:H)(wr:G D)(r:rF):aa Lk:=some ⟨match d with
 |true=>r.one
 |false=>true,.fuel f,[],side 1 r.lo r.up d,.tok 2,iA wr⟩
noncomputable def Lb(d:ah)(E:aa H)(r:rF):aa D:=qL (side 1 r.lo r.up d) (side 2 (gv E) (gv E) false) (.ref 0)
noncomputable def PZ(E:aa H)(r:rF):aa D:=some (sr r.told E)
theorem aep(f:H)(wr:G D):fL.map (vX true f wr)=fL.map (uI true f wr):=by kernel_rfl
theorem aeo(f:H)(wr:G D):fL.map (vX false f wr)=fL.map (uI false f wr):=by kernel_rfl
theorem aen(d:ah):jI.map (λE=>fL.map (Lb d E))=jI.map (λE=>fL.map (PZ E)):=by kernel_rfl
theorem Lc(x y:D):qL x y .none=some .none:=by kernel_rfl
structure Sg where
 tl:G D
 tu:G D
 nl:G D
 nu:G D
noncomputable def mx(E:aa (G D×G D))(lo up:G D):ah:=match E with
 |some q=>cT q.1 lo&&cT q.2 up
 |.none=>true
noncomputable def findR(B:G fN)(g:D)(s:Sg):aa fN:=@b9 fN (λ_=>aa fN) .none (λr _ O=>@bN (λ_=>aa fN) O (some r) (eW r.g g&&mx r.sT s.tl s.tu&&mx r.sN s.nl s.nu)) B
noncomputable def qO(B:G (G fN))(g:D)(s:Sg):aa fN:=@b9 (G fN) (λ_=>aa fN) .none (λB _ O=>match findR B g s with
 |some r=>some r
 |.none=>O) B
noncomputable def vF(E:aa (G D×G D))(B:G D×G D):G D×G D:=match E with
 |some q=>q
 |.none=>B
noncomputable def jn(r:fN)(s:Sg):Sg:=⟨(vF r.lU (s.tl,s.tu)).1,(vF r.lU (s.tl,s.tu)).2,(vF r.lR (s.nl,s.nu)).1,(vF r.lR (s.nl,s.nu)).2⟩
structure wg where
 k:H
 p:H
 fl:ah
 left:G D
 s:Sg
noncomputable def m8(n:H):G D->Sg->aa wg:=@nZ (λ_=>G D->Sg->aa wg) (λ_ _=>.none) (λ_ O B s=>match B with
 |[]=>some ⟨0,0,true,[],s⟩
 |g::aY=>match qO oY g s with
  |some r=>match r.fl with
   |true=>match O (app r.subs aY) (jn r s) with
    |some E=>some ⟨cX E.k,r.p+E.p,E.fl,E.left,E.s⟩
    |.none=>.none
   |false=>some ⟨1,r.p,false,app r.subs aY,jn r s⟩
  |.none=>.none) n
theorem fU{α β:Type}{f g:α->β}{B:G α}(e:B.map f=B.map g):∀x∈B,f x=g x:=by
 induction B with
 |nil=>exact λ_ h=>nomatch h
 |cons a B O=>
  have e:=qz e
  exact λx h=>(bY.mp h).elim (λz=>z▸e.1) (O e.2 x)
theorem O_{r:fN}(h:∃B∈oY,r∈B)(f:H)(aY wr:G D)(d:ah):oR f aY wr d r=oA f aY wr d r:=by
 refine ay h λB hl hr=>?_
 simp only [oY,bY,eP,gH] at hl
 rcases hl with rfl|rfl|rfl|rfl|rfl|rfl|rfl|rfl|rfl
 .exact fU (aev f aY wr d) r hr
 .exact fU (aew f aY wr d) r hr
 .exact fU (aex f aY wr d) r hr
 .exact fU (aey f aY wr d) r hr
 .exact fU (aez f aY wr d) r hr
 .exact fU (aeA f aY wr d) r hr
 .exact fU (aeB f aY wr d) r hr
 .exact fU (aeC f aY wr d) r hr
 .exact fU (aeD f aY wr d) r hr
noncomputable def nM(E:aa (G D×G D)):ah:=match E with
 |some q=>allB bE q.1&&allB bE q.2
 |.none=>true
noncomputable def Ha(r:fN):ah:=allB bE r.subs&&eB r.subs.length 6&&nM r.lU&&nM r.lR
theorem aeE:allB (allB Ha) oY=true:=by kernel_rfl
theorem Oj(h:∃B∈oY,r∈B):Ha r=true:=by
 refine ay h λB hl hr=>?_
 exact b7 (b7 aeE B hl) r hr
theorem Vw:∀{B:G fN},findR B g s=some r->r∈B/\r.g=g/\mx r.sT s.tl s.tu=true/\mx r.sN s.nl s.nu=true:=by
 intro gu
 induction gu with
 |nil=>
  intro e
  exact aB e
 |cons a B O=>
  intro e
  have e':@bN (λ_=>aa fN) (findR B g s) (some a) (eW a.g g&&mx a.sT s.tl s.tu&&mx a.sN s.nl s.nu)=some r:=e
  cases I:eW a.g g&&mx a.sT s.tl s.tu&&mx a.sN s.nl s.nu with
  |false=>
   rw [I] at e'
   refine xA (O e') λh1 h2=>?_
   exact⟨.tail _ h1,h2⟩
  |true=>
   rw [I] at e'
   have e':=aM (e':some a=some r)
   rw [<-e']
   refine xA (aN.mp I) λI c3=>?_
   refine xA (aN.mp I) λc1 c2=>?_
   exact⟨.head _,iK c1,c2,c3⟩
theorem LC:∀{B:G (G fN)},qO B g s=some r->(∃m∈B,r∈m)/\r.g=g/\mx r.sT s.tl s.tu=true/\mx r.sN s.nl s.nu=true:=by
 intro gu
 induction gu with
 |nil=>
  intro e
  exact aB e
 |cons a B O=>
  intro e
  have e':(match findR a g s with|some r=>some r|.none=>qO B g s)=some r:=e
  generalize I:findR a g s=ax at e'
  cases ax with
  |some r'=>
   cases e'
   refine xA (Vw I) λh1 h2=>?_
   exact⟨⟨a,.head _,h1⟩,h2⟩
  |none=>
   obtain⟨⟨m,h1,sF⟩,h2⟩:=O e'
   exact⟨⟨m,.tail _ h1,sF⟩,h2⟩
noncomputable def sT(s:Sg)(d:ah):D:=side 1 s.tl s.tu d
noncomputable def jr(s:Sg):D:=side 2 s.nl s.nu false
theorem pz(h:allB bE B=true):∀m∈B,bC m=true:=λm hm=>by rw [<-fB];exact b7 h m hm
theorem yz(h:∀m∈B,bC m=true):allB bE B=true:=by
 induction B with
 |nil=>rfl
 |cons a B O=>
  refine(?_:(bE a&&allB bE B)=true)
  rw [fB,h a (.head _),O λm hm=>h m (.tail _ hm)];rfl
theorem js{lo up:G D}(h1:allB bE lo=true)(h2:allB bE up=true):cR (side E lo up d)=true:=by
 unfold cR side
 rw [<-fB,s9]
 refine(?_:((bE (.bool true)&&(bE (.int E)&&(bE (.tup lo)&&(bE (.tup up)&&(bE (.bool d)&&true)))))&&true)=true)
 rw [nG,nG,h1,h2]
 rfl
noncomputable def i4(s:Sg):Prop:=allB bE s.tl=true/\allB bE s.tu=true/\allB bE s.nl=true/\allB bE s.nu=true
noncomputable def abj(fl:ah)(left:G D)(s:Sg)(d:ah):mf:=match fl with
 |true=>.good (sT s d) (jr s)
 |false=>.bad [] left (sT s d) (jr s)
theorem BF{r:fN}(h:mx r.sT s.tl s.tu=true):jQ (sT s d) 1 (qk r.sT d):=by
 generalize e:r.sT=ax at h
 cases ax with
 |none=>exact .inr rfl
 |some q=>
  refine xA (aN.mp (h:(cT q.1 s.tl&&cT q.2 s.tu)=true)) λh1 h2=>?_
  refine .inl ?_
  refine(?_:side 1 q.1 q.2 d=side 1 s.tl s.tu d)
  rw [eu h1,eu h2]
theorem BE{r:fN}(h:mx r.sN s.nl s.nu=true):jQ (jr s) 2 (qj r.sN):=by
 generalize e:r.sN=ax at h
 cases ax with
 |none=>exact .inr rfl
 |some q=>
  refine xA (aN.mp (h:(cT q.1 s.nl&&cT q.2 s.nu)=true)) λh1 h2=>?_
  refine .inl ?_
  refine(?_:side 2 q.1 q.2 false=side 2 s.nl s.nu false)
  rw [eu h1,eu h2]
theorem NC(h:nM r.lU=true):Left 1 (qk r.lU d)/\un (sT s d) 1 (qk r.lU d)=sT (jn r s) d:=by
 unfold sT jn
 generalize e:r.lU=ax at h
 cases ax with
 |none=>exact⟨.inr rfl,rfl⟩
 |some q=>
  refine xA (aN.mp (h:(allB bE q.1&&allB bE q.2)=true)) λh1 h2=>?_
  exact⟨.inl (aN.mp (js (E:=1) (d:=d) h1 h2)).1,rfl⟩
theorem NB(h:nM r.lR=true):Left 2 (qj r.lR)/\un (jr s) 2 (qj r.lR)=jr (jn r s):=by
 unfold jr jn
 generalize e:r.lR=ax at h
 cases ax with
 |none=>exact⟨.inr rfl,rfl⟩
 |some q=>
  refine xA (aN.mp (h:(allB bE q.1&&allB bE q.2)=true)) λh1 h2=>?_
  exact⟨.inl (aN.mp (js (E:=2) (d:=false) h1 h2)).1,rfl⟩
theorem OC(h:Ha r=true)(hs:i4 s):i4 (jn r s):=by
 refine xA (aN.mp (h:(allB bE r.subs&&eB r.subs.length 6&&nM r.lU&&nM r.lR)=true)) λh h4=>?_
 refine xA (aN.mp h) λh h3=>?_
 refine eN hs λs1 s2 s3 s4=>?_
 have key:∀{E:aa (G D×G D)} {B:G D×G D},nM E=true->allB bE B.1=true->allB bE B.2=true->allB bE (vF E B).1=true/\allB bE (vF E B).2=true:=by
  intro E B h h1 h2
  cases E with
  |none=>exact⟨h1,h2⟩
  |some q=>exact aN.mp (h:(allB bE q.1&&allB bE q.2)=true)
 have k1:=key (B:=(s.tl,s.tu)) h3 s1 s2
 have k2:=key (B:=(s.nl,s.nu)) h4 s3 s4
 exact⟨k1.1,k1.2,k2.1,k2.2⟩
theorem J3:∀{left:G D} {s:Sg} {E:wg},i4 s->m8 n left s=some E->Chain WS 60 gx dK.1 dK.2 left (sT s d) (jr s) E.k E.p (abj E.fl E.left E.s d)/\i4 E.s:=by
 induction n with
 |zero=>exact λ_ e=>aB e
 |succ n O=>
  intro left s E hs e
  cases left with
  |nil=>exact(aM e)▸⟨.done,hs⟩
  |cons g aY=>
   have e':(match qO oY g s with
    |some r=>match r.fl with
     |true=>match m8 n (app r.subs aY) (jn r s) with
      |some E=>some ⟨cX E.k,r.p+E.p,E.fl,E.left,E.s⟩
      |.none=>.none
     |false=>some (⟨1,r.p,false,app r.subs aY,jn r s⟩:wg)
    |.none=>.none)=some E:=e
   generalize hr:qO oY g s=ax at e'
   cases ax with
   |none=>exact aB e'
   |some r=>
    refine eN (LC hr) λhm aI h1 h2=>?_;subst aI
    have hp:=Oj hm
    have hn:=OC hp hs
    refine xA (aN.mp (hp:(allB bE r.subs&&eB r.subs.length 6&&nM r.lU&&nM r.lR)=true)) λgU p4=>?_
    refine xA (aN.mp gU) λgU p3=>?_
    refine xA (aN.mp gU) λp1 p2=>?_
    have p2:=dw p2
    have cS:Row WS 60 gx dK.1 dK.2 r.g (qk r.sT d) (qj r.sN) r.fl r.subs (qk r.lU d) (qj r.lR) r.p:=λf aY wr=>O_ hm f aY wr d
    refine xA (NC (s:=s) (d:=d) p3) λlT uT=>?_
    refine xA (NB (s:=s) p4) λlN uN=>?_
    dsimp only at e'
    generalize hf:r.fl=ax at e' cS
    cases ax with
    |true=>
     have e':(match m8 n (app r.subs aY) (jn r s) with
      |some E=>some (⟨cX E.k,r.p+E.p,E.fl,E.left,E.s⟩:wg)
      |.none=>.none)=some E:=e'
     rw [gM] at e'
     generalize ha:m8 n (r.subs++aY) (jn r s)=ax at e'
     cases ax with
     |none=>exact aB e'
     |some o'=>
      rw [<-aM e']
      refine xA (O hn ha) λch so=>?_
      refine⟨.turn cS (BF h1) (BE h2) lT lN (pz p1) p2 ?_ ?_ ?_,so⟩
      .rw [uT];exact js hn.1 hn.2.1
      .rw [uN];exact js hn.2.2.1 hn.2.2.2
      .rw [uT,uN];exact ch
    |false=>
     rw [<-aM e']
     have:=Chain.fail (aY:=aY) cS (BF h1) (BE h2) lT lN (pz p1) p2
     rw [uT,uN,<-gM] at this
     exact⟨this,hn⟩
noncomputable def rD(w:H):D:=match w with
 |0=>yR
 |1=>arr yR (num 1)
 |2=>arr yR PE
 |3=>ak
 |4=>gz yR
 |_=>gP yR aC
noncomputable def tO(w:H):D:=match w with
 |0=>vT
 |1=>arr vT (num 1)
 |2=>arr vT PE
 |3=>ak
 |4=>gz vT
 |_=>gP vT aC
noncomputable def eX(w:H):D:=match w with
 |0=>vT
 |1=>arr vT (num 1)
 |2=>arr vT vN
 |3=>ak
 |4=>gz vT
 |_=>gP vT aC
noncomputable def bt(a:ba)(b:ah):D:=.tup [.int a,.bool b]
noncomputable def aaX(w:H):D:=match w with
 |0=>bt 1 false
 |1=>bt 0 true
 |2=>bt 0 true
 |3=>bt 0 false
 |4=>bt 0 true
 |_=>bt 1 false
noncomputable def aaY(w:H):D:=match w with
 |2=>bt 0 true
 |_=>bt 0 false
noncomputable def six:G H:=[0,1,2,3,4,5]
noncomputable def zw:G jP:=(six.map λw=>⟨209,[rD w,nQ],aaX w⟩)++six.map λw=>⟨209,[tO w,lS],aaY w⟩
noncomputable def y7:G nW:=(six.map λw=>⟨67,rD w,mK,vT,tO w⟩)++six.map λw=>⟨67,tO w,nP,vN,eX w⟩
noncomputable def W2:bQ:=gp cz (kP 60 zw y7) ke (λ_ _=>.none) 0
noncomputable def jW(W:bQ)(n:H)(p:jP):aa D:=(run ip W n).call (.fn p.a) p.args ⟨.nil,0⟩ λm _=>some m
noncomputable def jX(p:jP):aa D:=some p.res
noncomputable def nq(W:bQ)(n:H)(d:nW):aa D:=(run ip W n).call (.fn d.a) [d.t,.ref 0] (fA [.dict [(.str d.x,d.r)]]) kD
noncomputable def nv(d:nW):aa D:=some (.tup [.str d.x,d.r,d.res])
noncomputable def iL(t:ah):D:=match t with
 |true=>ak
 |false=>.none
noncomputable def c_(ws:G H)(t:ah):D:=.tup [du,.tup (ws.map rD),iL t]
noncomputable def mO(ws:G H)(t:ah):D:=.tup [du,.tup (ws.map tO),iL t]
noncomputable def Ii(ws:G H)(t:ah):D:=.tup [du,.tup (ws.map eX),iL t]
noncomputable def TQ(w:H):H:=match w with
 |0=>1
 |5=>1
 |_=>0
noncomputable def fH(w:H):ah:=bA w 1||(bA w 2||bA w 4)
noncomputable def gg(ws:G H):ah:=dB 1 ((ws.map TQ).foldr (· +·) 0)&&!(ws.any fH)
noncomputable def all1:G (G H):=six.map λa=>[a]
noncomputable def all2:G (G H):=six.flatMap λa=>six.map λb=>[a,b]
noncomputable def bV(I:H):G (G H):=six.flatMap λa=>six.map λb=>[a,b,I]
noncomputable def iW(ws:G H):G jP:=[false,true].flatMap λt=>[⟨223,[cD (c_ ws t),nQ],.bool (gg ws)⟩,⟨223,[mO ws t,lS],.bool false⟩]
noncomputable def iX(ws:G H):G nW:=[false,true].flatMap λt=>[⟨67,cD (c_ ws t),mK,vT,cD (mO ws t)⟩,⟨67,mO ws t,nP,vN,Ii ws t⟩]
theorem ab6:zw.map (jW WS 60)=zw.map jX:=by kernel_rfl
theorem Uo:y7.map (nq WS 60)=y7.map nv:=by kernel_rfl
theorem aaO:(all1.flatMap iW).map (jW W2 90)=(all1.flatMap iW).map jX:=by kernel_rfl
theorem acJ:(all1.flatMap iX).map (nq W2 90)=(all1.flatMap iX).map nv:=by kernel_rfl
theorem aaP:(all2.flatMap iW).map (jW W2 90)=(all2.flatMap iW).map jX:=by kernel_rfl
theorem acL:(all2.flatMap iX).map (nq W2 90)=(all2.flatMap iX).map nv:=by kernel_rfl
theorem aaQ:((bV 0).flatMap iW).map (jW W2 90)=((bV 0).flatMap iW).map jX:=by kernel_rfl
theorem acN:((bV 0).flatMap iX).map (nq W2 90)=((bV 0).flatMap iX).map nv:=by kernel_rfl
theorem aaR:((bV 1).flatMap iW).map (jW W2 90)=((bV 1).flatMap iW).map jX:=by kernel_rfl
theorem acO:((bV 1).flatMap iX).map (nq W2 90)=((bV 1).flatMap iX).map nv:=by kernel_rfl
theorem aaS:((bV 2).flatMap iW).map (jW W2 90)=((bV 2).flatMap iW).map jX:=by kernel_rfl
theorem acP:((bV 2).flatMap iX).map (nq W2 90)=((bV 2).flatMap iX).map nv:=by kernel_rfl
theorem aaT:((bV 3).flatMap iW).map (jW W2 90)=((bV 3).flatMap iW).map jX:=by kernel_rfl
theorem acQ:((bV 3).flatMap iX).map (nq W2 90)=((bV 3).flatMap iX).map nv:=by kernel_rfl
theorem aaU:((bV 4).flatMap iW).map (jW W2 90)=((bV 4).flatMap iW).map jX:=by kernel_rfl
theorem acR:((bV 4).flatMap iX).map (nq W2 90)=((bV 4).flatMap iX).map nv:=by kernel_rfl
theorem aaV:((bV 5).flatMap iW).map (jW W2 90)=((bV 5).flatMap iW).map jX:=by kernel_rfl
theorem acS:((bV 5).flatMap iX).map (nq W2 90)=((bV 5).flatMap iX).map nv:=by kernel_rfl
section
variable{c:a_}{w:dF}{Y:bG}{F C:G aA}{J h:aP}{K:b8}{mg mb:ar->aa aw}{aL:H->aa D}{o:MH}
theorem DP(h:∀m∈B,bC m=true):cE aQ aJ B B:=λ_ _ _=>iw h
theorem et(h:bC m=true):cE aQ aJ [m] [m]:=λ_ _ _=>.cons (.same h) .nil
theorem Ae(aV:Base c w K cz J mg mb)(ho:iF c (wb c w (aU aH)) J (gp cz gX ke (λ_ _=>.none) 0))(e:jW (gp cz gX ke (λ_ _=>.none) 0) n p=jX p)(pa:∀m∈p.args,bC m=true)(pr:bC p.res=true):mh c w J aH n p.a p.args p.res:=
 Hh (aL:=aU aH) (aV.sound (kY rfl) hN ho (.inl jD) (mj p.res) n) e (DP pa) (et pr)
theorem agB:Mine.Internal.kD=Mine.Internal.kD:=rfl
theorem Eg(aV:Base c w K cz J mg mb)(ho:iF c (wb c w (aU aH)) J (gp cz gX ke (λ_ _=>.none) 0))(e:nq (gp cz gX ke (λ_ _=>.none) 0) n d=nv d)(pt:bC d.t=true)(pr:bC d.r=true)(ps:bC d.res=true):qx c w J aH n d.a d.t d.x d.r d.res:=
 Ua (aL:=aU aH) pr (aV.sound (kY rfl) hN ho (.inl jD) (mj _) n) e (et pt) (et ps)
noncomputable def Bq(p:jP):ah:=allB bE p.args&&bE p.res
noncomputable def G_(d:nW):ah:=bE d.t&&bE d.r&&bE d.res
theorem Br(h:Bq p=true):(∀m∈p.args,bC m=true)/\bC p.res=true:=by
 refine xA (aN.mp h) λh1 h2=>?_
 exact⟨pz h1,fB _▸h2⟩
theorem Od(h:G_ d=true):bC d.t=true/\bC d.r=true/\bC d.res=true:=by
 refine xA (aN.mp (h:(bE d.t&&bE d.r&&bE d.res)=true)) λh h3=>?_
 refine xA (aN.mp h) λh1 h2=>?_
 exact⟨fB _▸h1,fB _▸h2,fB _▸h3⟩
theorem acH(hP:∀p∈P,mh c w J aH lv p.a p.args p.res)(hD:∀d∈bj,qx c w J aH lv d.a d.t d.x d.r d.res)(pP:allB Bq P=true)(pD:allB G_ bj=true):iF c (wb c w (aU aH)) J (gp cz (kP lv P bj) tv eq pull):=
 vI (λp hp o=>by
  refine xA (Br (b7 pP p hp)) λh1 h2=>?_
  exact rh (hP p hp) (DP h1) (et h2)) λd hd o j e=>by
  refine cf (Od (b7 pD d hd)) λh1 h2 h3=>?_
  exact DW h2 (hD d hd) (et h1) (et h3) e
theorem mh.more(le:n<=m)(P:mh c w J aH n a args res):mh c w J aH m a args res:=λY F s V room S y=>P Y F s V (room.le le) S y
theorem qx.more(le:n<=m)(P:qx c w J aH n a t x r res):qx c w J aH m a t x r res:=λY F ad s v room S y=>P Y F ad s v (room.le le) S y
theorem Hc:allB Bq zw=true:=by kernel_rfl
theorem KW:allB G_ y7=true:=by kernel_rfl
theorem IA(aV:Base c w K cz J mg mb):iF c (wb c w (aU aH)) J W2:=
 acH (λp hp=>Ae aV lM (fU ab6 p hp) (Br (b7 Hc p hp)).1 (Br (b7 Hc p hp)).2) (λd hd=>by
  refine cf (Od (b7 KW d hd)) λh1 h2 h3=>?_
  exact Eg aV lM (fU Uo d hd) h1 h2 h3) Hc KW
end
noncomputable def fR(k:H):D:=match k with
 |0=>aC
 |1=>ai
 |2=>ak
 |_=>af
noncomputable def hU(k:H):D:=match k with
 |0=>aC
 |1=>ai
 |2=>bF
 |_=>ai
noncomputable def qc(k num w:H)(d:ah):D:=match w with
 |0=>hU k
 |1=>arr (fR k) (NR 1)
 |2=>arr (fR k) (NR num)
 |3=>match d with
  |true=>ai
  |false=>aC
 |4=>gz (fR k)
 |_=>gP (hU k) aC
where NR (i:H):D:=.tup [sN,.int (.ofNat i)]
noncomputable def hH:G D:=[aC,ai,bF,j0,aF]++[0,1,2,3].flatMap λk=>[arr (fR k) (num 1),arr (fR k) (num 2),arr (fR k) (num 3),gz (fR k),gP (hU k) aC]
noncomputable def zv:G jP:=hH.map λp=>⟨238,[p],.bool false⟩
noncomputable def Pc(n:H):G D:=(fZ n).map λi=>.tok (50+i)
noncomputable def Pb(n:H):G D:=(fZ n).map λi=>.tok (40+i)
noncomputable def RD:G jP:=(fZ 6).map λi=>⟨238,[.tok (50+i)],.bool false⟩
noncomputable def Mt(lo hi:H)(v:D):ah:=match v with
 |.tok i=>eB lo i&&dB i hi
 |_=>false
noncomputable def u9(lo hi:H)(B:G D):ah:=allB (Mt lo hi) B
noncomputable def eqT(a b:D):aa ah:=match a with
 |.tup B=>match B with
  |[x,p,u]=>match p with
   |.tup ps=>match b with
    |.tup m=>match m with
     |[y,q,v]=>match q with
      |.tup qs=>match u9 50 60 ps&&u9 40 50 qs&&eW x du&&eW y du&&eW u .none&&(eW v .none||eW v ak)&&dB 0 ps.length&&dB 0 qs.length with
       |true=>some false
       |false=>.none
      |_=>.none
     |_=>.none
    |_=>.none
   |_=>.none
  |_=>.none
 |_=>.none
noncomputable def WF:bQ:=gp cz (kP 16 RD []) ke eqT 0
noncomputable def An(m n:H)(t:ah):D:=sub (.tup [du,.tup (Pc m),.none]) (.tup [du,.tup (Pb n),iL t])
noncomputable def vU(m n:H):G D:=((fZ m).map λi=>sub (.tok (50+i)) (@bN (λ_=>D) ak (.tok (40+i)) (dB i n))).reverse
noncomputable def first(m n:H)(t:ah)(f:H)(wr:G D):aa Lk:=turn WF 60 gx dK.1 dK.2 (stH (cX f) [An m n t] wr (.tok 1) (.tok 2))
theorem ab0:zv.map (jW WS 16)=zv.map jX:=by kernel_rfl
noncomputable def fits:G (H×H×ah):=[(1,1,false),(2,2,false),(3,3,false),(1,1,true),(2,1,true),(3,1,true),(2,2,true),(3,2,true),(4,2,true),(3,3,true),(4,3,true),(5,3,true)]
noncomputable def p8:G (H×H×ah):=[(0,1,false),(0,1,true),(2,1,false),(3,2,false),(4,3,false),(1,2,false),(2,3,false),(1,2,true),(2,3,true)]
theorem VD(f:H)(wr:G D):fits.map (λq=>first q.1 q.2.1 q.2.2 f wr)=fits.map (λq=>some ⟨true,.fuel f,vU q.1 q.2.1,.tok 1,.tok 2,iA wr⟩):=by kernel_rfl
theorem Z6(f:H)(wr:G D):p8.map (λq=>first q.1 q.2.1 q.2.2 f wr)=p8.map (λq=>some ⟨false,.fuel f,[],.tok 1,.tok 2,iA wr⟩):=by kernel_rfl
noncomputable def gy(KT x y:D)(ps ws:G D)(i:H):aa D:=if i=0 then some KT else if i=1 then some x else if i=2 then some y else if 40<=i/\i<50 then ws[i-40]? else if 50<=i/\i<60 then ps[i-50]? else none
noncomputable def lx:G D:=six.map eX
noncomputable def apart1:ah:=allB (λp=>allB (λq=>match gV p q 38 with
 |some b=>!b
 |.none=>false) lx) hH
theorem Sr:apart1=true:=by kernel_rfl
theorem uq:allB cR hH=true:=by kernel_rfl
theorem JZ:allB cR lx=true:=by kernel_rfl
theorem ab1:allB Bq zv=true:=by kernel_rfl
section
variable{c:a_}{w:dF}{Y:bG}{F C:G aA}{J h:aP}{K:b8}{mg mb:ar->aa aw}{aL:H->aa D}{o:MH}{x y:D}{ps ws:G D}
theorem apart_at(hp:p∈hH)(hq:q∈lx):gV p q 38=some false:=by
 have:=b7 (b7 Sr p hp) q hq
 generalize e:gV p q 38=ax at this
 cases ax with
 |none=>exact bz this
 |some b=>cases b<;>first|rfl|exact bz this
theorem Zf:∀{m:G D},(∀p∈B,∀q∈m,gV p q k=some false)->B≠[]->m≠[]->i8 B m k=some false:=by
 induction B with
 |nil=>exact λ_ h _=>bP rfl h
 |cons p B O=>
  intro m h _ hm
  cases m with
  |nil=>exact bP rfl hm
  |cons q m=>
   rw [s7]
   dsimp only
   rw [h p (.head _) q (.head _)]
   have:∃b,i8 B m k=some b:=by
    cases B with
    |nil=>exact⟨_,Ng m k⟩
    |cons a B=>
     cases m with
     |nil=>exact⟨false,by rw [s7]⟩
     |cons b m=>exact⟨false,O (λp hp q hq=>h p (.tail _ hp) q (.tail _ hq)) (QC _ _) (QC _ _)⟩
   refine bw this λb hb=>?_
   rw [hb]
   rfl
theorem O9(lo:50<=i)(hi:i<60)(e:gy aH x y ps ws i=some m):m∈ps:=by
 unfold gy at e
 rw [bk (by lia),bk (by lia),bk (by lia),bk (by lia),bT ⟨lo,hi⟩] at e
 exact dy e
theorem aet(lo:40<=i)(hi:i<50)(e:gy aH x y ps ws i=some m):m∈ws:=by
 unfold gy at e
 rw [bk (by lia),bk (by lia),bk (by lia),bT ⟨lo,hi⟩] at e
 exact dy e
theorem Pf{lo hi:H}{al:G D}(hm:∀i m,lo<=i->i<hi->aL i=some m->m∈al):∀{V:G aw},u9 lo hi B=true->aW c (wb c w aL) F C h B V->∃l0,l0.length=B.length/\(∀m∈l0,m∈al)/\∀aJ,cE aL aJ B l0:=by
 induction B with
 |nil=>exact λ_ _=>⟨[],rfl,(λm hm=>nomatch hm),λ_ _ _ _=>.nil⟩
 |cons v B O=>
  intro V e y
  refine dR.el y.cj λu r aE y1 y2=>?_;skip
  refine xA (aN.mp (e:(Mt lo hi v&&u9 lo hi B)=true)) λe1 e2=>?_
  refine fM (O e2 y2) λl0 h1 h2 h3=>?_
  clear e e2 y y2 O
  have:∃i,v=.tok i/\(eB lo i&&dB i hi)=true:=by
   clear y1
   cases v with
   |tok i=>exact⟨i,rfl,e1⟩
   |_=>exact bz e1
  refine ay this ?_;clear this;intro i aI e1;subst aI
  have b:=aN.mp e1
  refine ay y1 λm em _=>?_
  exact⟨m::l0,cq (· +1) h1,λz hz=>(bY.mp hz).elim (λq=>q▸hm i _ (dw b.1) (dw b.2) em) (h2 z),λaJ o β FZ=>.cons (.fe em) (h3 aJ o β FZ)⟩
theorem U7(e:eqT a b=some r):r=false/\∃yA yB v,a=.tup [du,.tup yA,.none]/\b=.tup [du,.tup yB,v]/\(v=.none\/v=ak)/\u9 50 60 yA=true/\u9 40 50 yB=true/\yA≠[]/\yB≠[]:=by
 unfold eqT at e
 cases a with
 |tup B=>
  match B,e with
  |[],e=>exact aB e
  |[_],e=>exact aB e
  |[_,_],e=>exact aB e
  |_::_::_::_::_,e=>exact aB e
  |[x,p,u],e=>
   cases p with
   |tup ps=>
    cases b with
    |tup m=>
     match m,e with
     |[],e=>exact aB e
     |[_],e=>exact aB e
     |[_,_],e=>exact aB e
     |_::_::_::_::_,e=>exact aB e
     |[y,q,v],e=>
      cases q with
      |tup qs=>
       dsimp only at e
       refine xA (bI e) λI e=>?_
       cases e
       refine xA (aN.mp I) λI c8=>?_
       refine xA (aN.mp I) λI c7=>?_
       refine xA (aN.mp I) λI c6=>?_
       refine xA (aN.mp I) λI c5=>?_
       refine xA (aN.mp I) λI c4=>?_
       refine xA (aN.mp I) λI c3=>?_
       refine xA (aN.mp I) λc1 c2=>?_
       refine⟨rfl,ps,qs,v,by rw [iK c3,iK c5],by rw [iK c4],?_,c1,c2,(λz=>by rw [z] at c7;exact bz c7),(λz=>by rw [z] at c8;exact bz c8)⟩
       refine dC (k_.mp c6) (λz=>?_) λz=>?_
       .exact .inl (iK z)
       .exact .inr (iK z)
      |_=>exact aB e
    |_=>exact aB e
   |_=>exact aB e
 |_=>exact aB e
theorem U6(aV:Base c w K cz J mg mb)(hp:∀p∈ps,p∈hH)(hq:∀q∈ws,q∈lx):∀a b r,eqT a b=some r->tV c (wb c w (gy aH x y ps ws)) J a b r:=by
 intro a b r e
 refine xA (U7 e) λeJ bB=>dO bB λyA yB v fV dA=>eN dA λacC hv t1 af5=>cf af5 λt2 n1 n2=>?_;subst eJ;rw [fV];rw [acC]
 intro Y own F C s o u1 u2 S hu x1 x2
 have T:=aV.top (aL:=aU aH) (gX:=λ_ _ _=>.none) (tv:=ke) (eq:=λ_ _=>.none) (pull:=0) (kY rfl) hN
 have dG:∀a∈F++C,a∈F\/a∈C:=λa ha=>dI.mp ha
 have SK:=S.bare dG (aU aH)
 have y1:=x1
 have y2:=x2
 refine gr.el y1.gj λa1 aha agP e1 ag3 g1 z1=>?_
 refine gr.el y2.gj λa2 PL agQ e2 ag4 g2 z2=>?_
 replace z1:=z1.cj;obtain⟨_,r1,_,_,z1⟩:=z1
 refine dR.el z1.cj λv1 r1 _ q1 _=>?_
 replace z2:=z2.cj;obtain⟨_,r2,_,_,z2⟩:=z2
 refine dR.el z2.cj λv2 r2 _ q2 _=>?_
 refine gr.el q1.gj λ_ w1 _ _ _ _ q1=>?_
 refine gr.el q2.gj λ_ w2 _ _ _ _ q2=>?_
 refine fM (Pf (λi m lo hi em=>hp m (O9 lo hi em)) t1 q1) λl0 h1 h2 h3=>?_
 refine fM (Pf (λi m lo hi em=>hq m (aet lo hi em)) t2 q2) λm0 k1 k2 k3=>?_
 have ca:cE (gy aH x y ps ws) (aU aH) [.tup [du,.tup yA,.none]] [.tup [du,.tup l0,.none]]:=λo β FZ=>.cons (.tup (.cons (.same rfl) (.cons (.tup (h3 _ o β FZ)) (.cons (.same rfl) .nil)))) .nil
 have Xy:bC v=true:=by rcases hv with rfl|rfl<;>rfl
 have cb:cE (gy aH x y ps ws) (aU aH) [.tup [du,.tup yB,v]] [.tup [du,.tup m0,v]]:=λo β FZ=>.cons (.tup (.cons (.same rfl) (.cons (.tup (k3 _ o β FZ)) (.cons (.same Xy) .nil)))) .nil
 have X1:=ca.vr S dG (λa (ha:a∈([]:G aA))=>nomatch ha) x1
 have X2:=cb.vr S dG (λa (ha:a∈([]:G aA))=>nomatch ha) x2
 have aal:l0≠[]:=λz=>n1 (Jg (by rw [<-h1,z];rfl))
 have aam:m0≠[]:=λz=>n2 (Jg (by rw [<-k1,z];rfl))
 have me:uE (⟨.nil,0⟩:MH) (.tup [du,.tup l0,.none]) (.tup [du,.tup m0,v])=some false:=by
  refine(?_:gV (.tup [du,.tup l0,.none]) (.tup [du,.tup m0,v]) 40=some false)
  rw [Ba]
  refine(?_:i8 [du,.tup l0,.none] [du,.tup m0,v] 39=some false)
  rw [s7]
  dsimp only
  rw [s7]
  dsimp only
  rw [Ba]
  have:uF (i8 l0) (.tup m0) 39=i8 l0 m0 38:=rfl
  rw [this,Zf (λp gU q Xg=>apart_at (h2 p gU) (k2 q Xg)) aal aam]
  rcases hv with rfl|rfl<;>rfl
 refine xA (Ac (own:=[]) T SK hu me X1 X2) λE1 E2=>?_
 refine⟨λQ au q=>E1 Q au λv bq h1 aZ aS p1=>?_,λQ au q=>E2 Q au λv bq h1 aZ aS p1=>?_⟩
 .refine cf p1 ?_;clear p1;intro eJ aI aE;subst eJ;subst aI;subst aE
  exact q _ C _ aZ (.refl ..) ⟨rfl,rfl,rfl⟩
 .refine cf p1 ?_;clear p1;intro eJ aI aE;subst eJ;subst aI;subst aE
  exact q _ C _ aZ (.refl ..) ⟨rfl,rfl,rfl⟩
theorem aca(aV:Base c w K cz J mg mb)(hp:∀p∈ps,p∈hH):iF c (wb c w (gy aH x y ps ws)) J WF:=by
 refine vI (λp gU o=>?_) (λd hd=>nomatch hd)
 refine ay (cF.mp gU) λi hi aE=>?_;subst aE
 have hi:i<6:=md.mp hi
 intro Y F C s V room S y0
 refine dR.el y0.cj λv r aE y1 y2=>?_;subst aE
 have afZ:(wb c w (gy aH x y ps ws)).tok (50+i) F C s.heap v:=y1
 refine ay afZ λm em _=>?_
 have hm:=hp m (O9 (by lia) (by lia) em)
 have Mj:(⟨238,[m],.bool false⟩:jP)∈zv:=cF.mpr ⟨m,hm,rfl⟩
 refine xA (Br (b7 ab1 _ Mj)) λq1 q2=>?_
 have P:=Ae aV lM (fU ab0 _ Mj) q1 q2
 exact rh (oh:=[.tok (50+i)]) P (λ_ _ _=>.cons (.fe em) .nil) (et rfl) Y F C s (v::r) room S y0
end
noncomputable def qP(ps ws:G D)(i:H):D:=sub (ps.getD i .none) (match dB i ws.length with
 |true=>ws.getD i .none
 |false=>ak)
noncomputable def jE(ps ws:G D):G D:=((fZ ps.length).map (qP ps ws)).reverse
noncomputable def oneOf(ps:G D):D:=.tup [du,.tup ps,.none]
noncomputable def bodyOf(ws:G D)(t:ah):D:=.tup [du,.tup ws,iL t]
section
variable{c:a_}{w:dF}{Y:bG}{F C:G aA}{J h:aP}{K:b8}{mg mb:ar->aa aw}{aL aQ aJ:H->aa D}{o:MH}{x y:D}{ps ws:G D}{β:H->aa H}{FZ:H->Prop}
theorem qI{B:G H}(h:∀i∈B,Cv aQ aJ o β FZ (f i) (g i)):cG aQ aJ o β FZ (B.map f) (B.map g):=by
 induction B with
 |nil=>exact .nil
 |cons i B O=>exact .cons (h i (.head _)) (O λj hj=>h j (.tail _ hj))
theorem map_getD(B:G D):(fZ B.length).map (λi=>B.getD i .none)=B:=by
 apply QG
 .simp
 .intro i h1 h2
  simp [qA,h2]
theorem BV(h:i<ps.length)(hl:ps.length<=6):gy aH x y ps ws (50+i)=some (ps.getD i .none):=by
 unfold gy
 rw [bk (by lia),bk (by lia),bk (by lia),bk (by lia),bT (by lia),show 50+i-50=i by lia,cV h]
 simp [qA,h]
theorem BW(h:i<ws.length)(hl:ws.length<=6):gy aH x y ps ws (40+i)=some (ws.getD i .none):=by
 unfold gy
 rw [bk (by lia),bk (by lia),bk (by lia),bT (by lia),show 40+i-40=i by lia,cV h]
 simp [qA,h]
theorem getD_mem{B:G D}(h:i<B.length):B.getD i .none∈B:=by
 have:B.getD i .none=B[i]:=by simp [qA,h]
 rw [this]
 exact zg h
theorem KJ{t:ah}(hp:∀p∈ps,p∈hH)(hq:∀q∈ws,q∈lx)(l1:ps.length<=6)(l2:ws.length<=6):cE (aU aH) (gy aH x y ps ws) [sub (oneOf ps) (bodyOf ws t)] [An ps.length ws.length t]:=by
 intro o β FZ
 have c1:cG (aU aH) (gy aH x y ps ws) o β FZ ps (Pc ps.length):=by
  have:=qI (aQ:=aU aH) (aJ:=gy aH x y ps ws) (o:=o) (β:=β) (FZ:=FZ) (f:=λi=>ps.getD i .none) (g:=λi=>.tok (50+i)) (B:=fZ ps.length) (λi hi=>by
   have hi:=md.mp hi
   have ok:=aN.mp (b7 uq _ (hp _ (getD_mem hi)))
   exact .eT ok.1 ok.2 (BV hi l1))
  rw [map_getD] at this
  exact this
 have c2:cG (aU aH) (gy aH x y ps ws) o β FZ ws (Pb ws.length):=by
  have:=qI (aQ:=aU aH) (aJ:=gy aH x y ps ws) (o:=o) (β:=β) (FZ:=FZ) (f:=λi=>ws.getD i .none) (g:=λi=>.tok (40+i)) (B:=fZ ws.length) (λi hi=>by
   have hi:=md.mp hi
   have ok:=aN.mp (b7 JZ _ (hq _ (getD_mem hi)))
   exact .eT ok.1 ok.2 (BW hi l2))
  rw [map_getD] at this
  exact this
 have ht:bC (iL t)=true:=by cases t<;>rfl
 exact .cons (.tup (.cons (.same rfl) (.cons (.tup (.cons (.same rfl) (.cons (.tup c1) (.cons (.same rfl) .nil)))) (.cons (.tup (.cons (.same rfl) (.cons (.tup c2) (.cons (.same ht) .nil)))) .nil)))) .nil
theorem O2(m n:H):vU m n=((fZ m).map λi=>sub (.tok (50+i)) (@bN (λ_=>D) ak (.tok (40+i)) (dB i n))).reverse:=rfl
theorem TZ(l1:ps.length<=6)(l2:ws.length<=6):cE (gy aH x y ps ws) (gy aH x y ps ws) (vU ps.length ws.length) (vU ps.length ws.length):=by
 intro o β FZ
 rw [O2]
 have:=cG.reverse (qI (aQ:=gy aH x y ps ws) (aJ:=gy aH x y ps ws) (o:=o) (β:=β) (FZ:=FZ) (f:=λi=>sub (.tok (50+i)) (@bN (λ_=>D) ak (.tok (40+i)) (dB i ws.length))) (g:=λi=>sub (.tok (50+i)) (@bN (λ_=>D) ak (.tok (40+i)) (dB i ws.length))) (B:=fZ ps.length) (λi hi=>by
  have hi:=md.mp hi
  refine .tup (.cons (.same rfl) (.cons (.gZ (BV hi l1) (BV hi l1)) (.cons ?_ .nil)))
  cases I:dB i ws.length with
  |true=>have h2:i<ws.length:=dw I;exact .gZ (BW h2 l2) (BW h2 l2)
  |false=>exact .same rfl)) (.nil)
 rw [h_] at this
 exact this
theorem TY(l1:ps.length<=6)(l2:ws.length<=6):cE (gy aH x y ps ws) (aU aH) (vU ps.length ws.length) (jE ps ws):=by
 intro o β FZ
 rw [O2]
 unfold jE
 have:=cG.reverse (qI (aQ:=gy aH x y ps ws) (aJ:=aU aH) (o:=o) (β:=β) (FZ:=FZ) (f:=λi=>sub (.tok (50+i)) (@bN (λ_=>D) ak (.tok (40+i)) (dB i ws.length))) (g:=qP ps ws) (B:=fZ ps.length) (λi hi=>by
  have hi:=md.mp hi
  unfold qP
  refine .tup (.cons (.same rfl) (.cons (.fe (BV hi l1)) (.cons ?_ .nil)))
  cases I:dB i ws.length with
  |true=>have h2:i<ws.length:=dw I;exact .fe (BW h2 l2)
  |false=>exact .same rfl)) (.nil)
 rw [h_,h_] at this
 exact this
theorem OH(aV:Base c w K cz J mg mb)(hp:∀p∈ps,p∈hH)(hq:∀q∈ws,q∈lx)(bu:Lk):Sound (λr:aa Lk=>r=some bu) c (wb c w (gy aH x y ps ws)) J 60 (run jR WF 60):=
 aV.sound (kY rfl) (U6 aV hp hq) (aca aV hp) (.inl jD) (De bu) 60
theorem Ep(aV:Base c w K cz J mg mb)(hp:∀p∈ps,p∈hH)(hq:∀q∈ws,q∈lx)(hf:(ps.length,ws.length,t)∈fits)(L:je c w J aH 60 gx dK.1 dK.2 (jE ps ws) x y k p E):je c w J aH 60 gx dK.1 dK.2 [sub (oneOf ps) (bodyOf ws t)] x y (k+1) p E:=by
 have mA:ps.length<=6/\ws.length<=6:=by
  have:∀q∈fits,q.1<=6/\q.2.1<=6:=by decide
  exact this _ hf
 have hl:(jE ps ws).length<=6:=by unfold jE;rw [ez,cZ,wB];exact mA.1
 refine Vz (fL:=gy aH x y ps ws) (g':=An ps.length ws.length t) (lX:=vU ps.length ws.length) (OH aV hp hq) rfl rfl rfl (λf wr=>?_) (KJ hp hq mA.1 mA.2) (TZ mA.1 mA.2) (TY mA.1 mA.2) hl L
 have e:=fU (VD f wr) _ hf
 dsimp only at e
 unfold first at e
 exact e
theorem Z3(aV:Base c w K cz J mg mb)(hp:∀p∈ps,p∈hH)(hq:∀q∈ws,q∈lx)(hf:(ps.length,ws.length,t)∈p8):je c w J aH 60 gx dK.1 dK.2 [sub (oneOf ps) (bodyOf ws t)] x y 1 0 (.bad [] [] x y):=by
 have mA:ps.length<=6/\ws.length<=6:=by
  have:∀q∈p8,q.1<=6/\q.2.1<=6:=by decide
  exact this _ hf
 refine Vy (fL:=gy aH x y ps ws) (g':=An ps.length ws.length t) (lX:=[]) (OH aV hp hq) rfl rfl rfl (λf wr=>?_) (KJ hp hq mA.1 mA.2) (λ_ _ _=>.nil) (λ_ _ _=>.nil) (gD _)
 have e:=fU (Z6 f wr) _ hf
 dsimp only at e
 unfold first at e
 exact e
end
theorem o1(dT dN:ah):yq dT dN kO=some (.tup [.tup [du,.tok 12,.tok 13],side 1 [] [] dT,side 2 [] [] dN]):=by kernel_rfl
theorem o2(dT dN:ah):yq dT dN ak=some (.tup [.tup [du,.tok 12,.tok 13],side 1 [] [ak] dT,side 2 [] [] dN]):=by kernel_rfl
theorem o3(dT dN:ah):yq dT dN aK=some (.tup [.tup [du,.tok 12,.tok 13],side 1 [] [aK] dT,side 2 [] [] dN]):=by kernel_rfl
theorem c4:mr true [] [] 0=some .none:=by kernel_rfl
theorem agb:mr true [] [] 1=some .none:=by kernel_rfl
theorem Dz(LB:G D):mr false [] LB 0=some .none:=by kernel_rfl
theorem Tr(LB ag:G D):mr false [sub ai aC::ag] LB 0=some .none:=by kernel_rfl
theorem Ts(LB ag:G D):mr false [sub aF aC::ag] LB 0=some .none:=by kernel_rfl
theorem Tt(LB ag R':G D):mr false [sub aF aC::ag,sub ai aC::R'] LB 0=some .none:=by kernel_rfl
theorem e5(dT dN:ah):qL (side 1 [aC] [] dT) (side 2 [] [] dN) (.ref 0)=some (.aD (.dict [mK]) [aC]):=by kernel_rfl
theorem agf(dT dN:ah):qL (side 1 [aC] [ak,aC] dT) (side 2 [num 2] [num 2] dN) (.ref 0)=some (.aD (.dict [mK,nP]) [aC,num 2]):=by kernel_rfl
theorem agg:qL (.tok 3) (.tok 4) .none=some .none:=by kernel_rfl
noncomputable def dq:G (G H):=all1++(all2++(bV 0++(bV 1++(bV 2++(bV 3++(bV 4++bV 5))))))
theorem gc{α β:Type}{f g:α->β}{B m:G α}(h1:B.map f=B.map g)(h2:m.map f=m.map g):(B++m).map f=(B++m).map g:=by rw [rN,rN,h1,h2]
theorem acF:(dq.flatMap iW).map (jW W2 90)=(dq.flatMap iW).map jX:=by
 unfold dq
 simp only [QK]
 exact gc aaO (gc aaP (gc aaQ (gc aaR (gc aaS (gc aaT (gc aaU aaV))))))
theorem acG:(dq.flatMap iX).map (nq W2 90)=(dq.flatMap iX).map nv:=by
 unfold dq
 simp only [QK]
 exact gc acJ (gc acL (gc acN (gc acO (gc acP (gc acQ (gc acR acS))))))
theorem afn:allB (λw=>bE (rD w)&&bE (tO w)&&bE (eX w)) six=true:=by kernel_rfl
theorem lW(h:ws∈dq):∀w∈ws,w∈six:=by
 have:allB (λws=>allB (λw=>mC w six) ws) dq=true:=by decide+kernel
 intro w hw
 have h2:=b7 (b7 this ws h) w hw
 have key:∀{B:G H},mC w B=true->w∈B:=by
  intro B
  induction B with
  |nil=>intro e;exact bz e
  |cons a B O=>
   intro e
   have e':@bN (λ_=>ah) (mC w B) true (bA a w)=true:=e
   cases I:bA a w with
   |true=>rw [dU I];exact .head _
   |false=>rw [I] at e';exact .tail _ (O e')
 exact key h2
theorem nS{ws:G H}(h:∀w∈ws,bC (f w)=true):bC (.tup [du,.tup (ws.map f),iL t])=true:=by
 rw [<-fB,nG]
 refine(?_:(bE du&&(bE (.tup (ws.map f))&&(bE (iL t)&&true)))=true)
 rw [nG,yz (B:=ws.map f) λm hm=>by obtain⟨w,hw,rfl⟩:=cF.mp hm;exact h w hw]
 cases t<;>rfl
section
variable{c:a_}{w:dF}{J:aP}{K:b8}{mg mb:ar->aa aw}
theorem Bs(h:ws∈dq):(∀w∈ws,bC (rD w)=true)/\(∀w∈ws,bC (tO w)=true)/\∀w∈ws,bC (eX w)=true:=by
 have key:∀w∈ws,bC (rD w)=true/\bC (tO w)=true/\bC (eX w)=true:=λw hw=>by
  have:=b7 afn w (lW h w hw)
  refine xA (aN.mp this) λq q3=>?_
  refine xA (aN.mp q) λq1 q2=>?_
  exact⟨fB _▸q1,fB _▸q2,fB _▸q3⟩
 exact⟨λw hw=>(key w hw).1,λw hw=>(key w hw).2.1,λw hw=>(key w hw).2.2⟩
theorem aa9(aV:Base c w K cz J mg mb)(h:ws∈dq)(t:ah)(one:D):iF c (wb c w (jL aH one (.tup (ws.map eX)) (iL t) (c_ ws t) (mO ws t))) J (W1 (gg ws) false):=by
 refine cf (Bs h) λpa pb pc=>?_
 have kA:bC (c_ ws t)=true:=nS pa
 have kB:bC (mO ws t)=true:=nS pb
 have kC:bC (Ii ws t)=true:=nS pc
 have Fx:∀{m:D},bC m=true->bC (cD m)=true:=λ{m} e=>by
  rw [<-fB] at e⊢
  refine(?_:bE (.tup [rl,lS,rn,kO,m])=true)
  rw [nG]
  refine(?_:(bE rl&&(bE lS&&(bE rn&&(bE kO&&(bE m&&true)))))=true)
  rw [e];rfl
 have Mr:∀p∈iW ws,mh c w J aH 90 p.a p.args p.res:=λp hp=>by
  refine Ae aV (IA aV) (fU acF p (mc.mpr ⟨ws,h,hp⟩)) ?_ ?_
  all_goals
   refine ay (mc.mp hp) λt' _ hp=>?_
   simp only [bY,eP,gH] at hp
   rcases hp with rfl|rfl
  .intro m hm;simp only [bY,eP,gH] at hm;rcases hm with rfl|rfl;exact Fx (nS pa);rfl
  .intro m hm;simp only [bY,eP,gH] at hm;rcases hm with rfl|rfl;exact nS pb;rfl
  .rfl
  .rfl
 have sP:∀d∈iX ws,qx c w J aH 90 d.a d.t d.x d.r d.res:=λd hd=>by
  have e:=fU acG d (mc.mpr ⟨ws,h,hd⟩)
  refine ay (mc.mp hd) λt' _ hd=>?_
  simp only [bY,eP,gH] at hd
  rcases hd with rfl|rfl
  .exact Eg aV (IA aV) e (Fx (nS pa)) rfl (Fx (nS pb))
  .exact Eg aV (IA aV) e (nS pb) rfl (nS pc)
 have mt:t∈[false,true]:=by cases t<;>decide
 have KH:∀{j:H} {m:D},jL aH one (.tup (ws.map eX)) (iL t) (c_ ws t) (mO ws t) j=some m->cE (jL aH one (.tup (ws.map eX)) (iL t) (c_ ws t) (mO ws t)) (aU aH) [cD (.tok j)] [cD m]:=λe o β FZ=>.cons (.tup (.cons (.same rfl) (.cons (.same rfl) (.cons (.same rfl) (.cons (.same rfl) (.cons (.fe e) .nil)))))) .nil
 refine vI (λp hp o=>?_) (λd hd o j e=>?_)
 .simp only [P1,bY,eP,gH] at hp
  rcases hp with rfl|rfl
  .refine rh (Mr ⟨223,[cD (c_ ws t),nQ],.bool (gg ws)⟩ (mc.mpr ⟨t,mt,.head _⟩)) (λo β FZ=>?_) (et rfl)
   exact .cons ((KH rfl).one o β FZ) (.cons (.same rfl) .nil)
  .refine rh (Mr ⟨223,[mO ws t,lS],.bool false⟩ (mc.mpr ⟨t,mt,.tail _ (.head _)⟩)) (λo β FZ=>?_) (et rfl)
   exact .cons (.fe rfl) (.cons (.same rfl) .nil)
 .simp only [D1,bY,eP,gH] at hd
  rcases hd with rfl|rfl
  .refine DW rfl (sP ⟨67,cD (c_ ws t),mK,vT,cD (mO ws t)⟩ (mc.mpr ⟨t,mt,.head _⟩)) (KH rfl) (λo β FZ=>?_) e
   have aaZ:cJ (handed (mO ws t))=true:=rfl
   exact .cons (.tup (.cons (.same rfl) (.cons (.same rfl) (.cons (.same rfl) (.cons (.same rfl) (.cons (.eT kB aaZ rfl) .nil)))))) .nil
  .refine DW rfl (sP ⟨67,mO ws t,nP,vN,Ii ws t⟩ (mc.mpr ⟨t,mt,.tail _ (.head _)⟩)) (λo β FZ=>.cons (.fe rfl) .nil) (λo β FZ=>?_) e
   have kw:bC (.tup (ws.map eX))=true:=by rw [<-fB,nG];exact yz λm hm=>by obtain⟨w,hw,rfl⟩:=cF.mp hm;exact pc w hw
   have kt:bC (iL t)=true:=by cases t<;>rfl
   have ht:cJ (handed (iL t))=true:=by cases t<;>rfl
   exact .cons (.tup (.cons (.same rfl) (.cons (.eT kw rfl rfl) (.cons (.eT kt ht rfl) .nil)))) .nil
noncomputable def cC(u:H):D:=match u with
 |0=>kO
 |1=>ak
 |_=>aK
noncomputable def o6(u:H):G D:=match u with
 |0=>[]
 |1=>[ak]
 |_=>[aK]
theorem aba(u:H)(d:ah):yq d false (cC u)=some (.tup [.tup [du,.tok 12,.tok 13],side 1 [] (o6 u) d,side 2 [] [] false]):=by
 match u with
 |0=>exact o1 d false
 |1=>exact o2 d false
 |u+2=>exact o3 d false
theorem Bj(h:∀m∈B,bC m=true):cR (.tup B)=true:=by
 unfold cR
 rw [<-fB,nG,yz h]
 rfl
theorem Ge(aV:Base c w K cz J mg mb)(h:ws∈dq){t:ah}(hp:∀p∈ps,p∈hH)
  (au:Ends zb c w J aH WE 60 gx dK.1 dK.2 tA [sub (oneOf ps) (bodyOf (ws.map eX) t)] (side 1 [] (o6 u) (gg ws)) (side 2 [] [] false) k p oc) (hk:k<=60) (lp:p<=390) (Bn:cR x'=true) (Bo:cR y'=true)
  (uV:(res=true/\oc=.good x' y'/\LB=[]/\R=[])\/(res=false/\oc=.bad R LB x' y'/\p=0)) (ll:LB.length<=400) (qf:∀m∈LB,bC m=true) (pe:∀e∈R,(∀m∈e,bC m=true)/\e.length<=400) (le:R.length<=2) (h4:mr res R LB p=some .none) (h5:qL x' y' (found res)=some R5):kh c w J aH 180 (oneOf ps) (dk (cC u) (cD (c_ ws t))) R5:=by
 refine cf (Bs h) λpa pb pc=>?_
 have ab9:∀p∈ps,bC p=true:=λp gU=>(aN.mp (b7 uq p (hp p gU))).1
 have k1:cR (oneOf ps)=true:=Bj λm hm=>by
  simp only [bY,eP,gH] at hm
  rcases hm with rfl|rfl|rfl
  .rfl
  .exact(aN.mp (Bj ab9)).1
  .rfl
 have ox:cR (side 1 [] (o6 u) (gg ws))=true:=js rfl (by match u with|0=>rfl|1=>rfl|u+2=>rfl)
 have oy:cR (side 2 [] [] false)=true:=js rfl rfl
 have k4:cR (.tup (ws.map eX))=true:=Bj λm hm=>by obtain⟨w,hw,rfl⟩:=cF.mp hm;exact pc w hw
 have k5:cR (iL t)=true:=by cases t<;>rfl
 have k2:cR (c_ ws t)=true:=by
  have:=nS (t:=t) pa
  unfold cR
  exact aN.mpr ⟨this,rfl⟩
 have hb:∀R B x y,oc=.bad R B x y->p=0:=λ_ _ _ _ e=>uV.elim (λz=>nomatch z.2.1.symm.trans e) λz=>z.2.2
 have FH:bC (cC u)=true:=by match u with|0=>rfl|1=>rfl|u+2=>rfl
 exact ZM aV (jN:=mO ws t) k1 FH k2 k4 k5 ox oy Bn Bo (aa9 aV h t (oneOf ps)) (aba u (gg ws)) lp uV ll qf pe le
  (λY F C s a0 a2 a3 a6 room S e0 e2 e3 e6=>adf aV au ox oy hk lp hb Y F C s a0 a2 a3 a6 room S e0 e2 e3 e6) h4 h5
end
theorem Tq(p:H):mr true [] [] p=some .none:=by kernel_rfl
theorem Chain.append(h1:Chain W n sc t bd l1 x y k p E)(ho:E=.good x' y')(h2:Chain W n sc t bd l2 x' y' k' p' o'):Chain W n sc t bd (l1++l2) x y (k+k') (p+p') o':=by
 induction h1 with
 |done=>cases ho;rw [uh,uh];exact h2
 |@turn g aY subs x y a b a' b' p0 k0 q0 oo cS s1 s2 Yw Yx pl ls o1 o2 ch O=>
  have:=Chain.turn cS s1 s2 Yw Yx pl ls o1 o2 (by have:=O ho;rw [l_] at this;exact this)
  rw [show k0+1+k'=k0+k'+1 by lia,show p0+q0+p'=p0+(q0+p') by lia]
  exact this
 |fail=>cases ho
 |last=>cases ho
section
variable{c:a_}{w:dF}{J:aP}{K:b8}{mg mb:ar->aa aw}
theorem ZG(aV:Base c w K cz J mg mb)(h:ws∈dq)(hp:∀p∈ps,p∈hH)(hf:(ps.length,ws.length,t)∈fits)(hr:r∈fL)(hn:on∈jI)
  (ch:Chain WS 60 gx dK.1 dK.2 (jE ps (ws.map eX)) (side 1 [] (o6 u) (gg ws)) (side 2 [] [] false) k p (.good (side 1 r.lo r.up (gg ws)) (side 2 (gv on) (gv on) false))) (pl:∀z∈jE ps (ws.map eX),bC z=true) (hk:k<60) (lp:p<=390)
  (kr:allB bE r.lo=true/\allB bE r.up=true) (hd:gg ws=true->r.one=true):kh c w J aH 180 (oneOf ps) (dk (cC u) (cD (c_ ws t))) (sr r.told on):=by
 have L:=DG aV ch pl
 have hq:∀q∈ws.map eX,q∈lx:=λq hq=>by
  refine ay (cF.mp hq) λw hw aE=>?_;subst aE
  exact cF.mpr ⟨w,lW h w hw,rfl⟩
 have L1:=Ep aV (t:=t) hp hq (by rw [cZ];exact hf) L
 have kn:allB bE (gv on)=true:=by cases on<;>rfl
 have gh:cR (side 1 r.lo r.up (gg ws))=true:=js kr.1 kr.2
 have gi:cR (side 2 (gv on) (gv on) false)=true:=js kn kn
 have cS:∀f wr,v_ WE 60 gx tA (stH f [] wr (side 1 r.lo r.up (gg ws)) (.tok 2))=some ⟨true,.fuel f,[],side 1 r.lo r.up (gg ws),.tok 2,iA wr⟩:=λf wr=>by
  cases e:gg ws with
  |true=>
   have:=fU (aep f wr) r hr
   unfold vX uI at this
   rw [hd e] at this
   exact this
  |false=>
   have:=fU (aeo f wr) r hr
   unfold vX uI at this
   exact this
 have h5:qL (side 1 r.lo r.up (gg ws)) (side 2 (gv on) (gv on) false) (found true)=some (sr r.told on):=by
  have:=fU (fU (aen (gg ws)) on hn) r hr
  unfold Lb PZ at this
  exact this
 exact Ge aV h hp (Ends.good L1 gh gi ⟨_,_,rfl⟩ cS) (by assumption) lp gh gi (.inl ⟨rfl,rfl,rfl,rfl⟩) (gD _) (λm h=>nomatch h) (λm h=>nomatch h) (gD _) (Tq p) h5
theorem Nl(aV:Base c w K cz J mg mb)(h:ws∈dq)(hp:∀p∈ps,p∈hH)
  (L1:je c w J aH 60 gx dK.1 dK.2 [sub (oneOf ps) (bodyOf (ws.map eX) t)] (side 1 [] (o6 u) (gg ws)) (side 2 [] [] false) k 0 (.bad R LB x' y')) (hk:k<=60) (gh:cR x'=true) (gi:cR y'=true) (ll:LB.length<=400) (pl:∀m∈LB,bC m=true) (pe:∀e∈R,(∀m∈e,bC m=true)/\e.length<=400) (le:R.length<=2) (h4:mr false R LB 0=some .none):kh c w J aH 180 (oneOf ps) (dk (cC u) (cD (c_ ws t))) .none:=
 Ge aV h hp (Ends.fail L1) hk (gD _) gh gi (.inr ⟨rfl,rfl,rfl⟩) ll pl pe le h4 (Lc x' y')
theorem Nn(aV:Base c w K cz J mg mb)(h:ws∈dq)(hp:∀p∈ps,p∈hH)(hf:(ps.length,ws.length,t)∈p8):kh c w J aH 180 (oneOf ps) (dk (cC u) (cD (c_ ws t))) .none:=by
 have hq:∀q∈ws.map eX,q∈lx:=λq hq=>by
  refine ay (cF.mp hq) λw hw aE=>?_;subst aE
  exact cF.mpr ⟨w,lW h w hw,rfl⟩
 have ox:cR (side 1 [] (o6 u) (gg ws))=true:=js rfl (by match u with|0=>rfl|1=>rfl|u+2=>rfl)
 have oy:cR (side 2 [] [] false)=true:=js rfl rfl
 exact Nl aV h hp (Z3 aV (t:=t) hp hq (by rw [cZ];exact hf)) (by decide) ox oy (gD _) (λm hm=>nomatch hm) (λm hm=>nomatch hm) (gD _) (Dz [])
theorem ZF(aV:Base c w K cz J mg mb)(h:ws∈dq)(hp:∀p∈ps,p∈hH)(hf:(ps.length,ws.length,t)∈fits)
  (ch:Chain WS 60 gx dK.1 dK.2 (jE ps (ws.map eX)) (side 1 [] (o6 u) (gg ws)) (side 2 [] [] false) k 0 (.bad R LB x' y')) (pl:∀z∈jE ps (ws.map eX),bC z=true) (hk:k<60) (gh:cR x'=true) (gi:cR y'=true) (ll:LB.length<=400) (qf:∀m∈LB,bC m=true) (pe:∀e∈R,(∀m∈e,bC m=true)/\e.length<=400) (le:R.length<=2) (h4:mr false R LB 0=some .none):kh c w J aH 180 (oneOf ps) (dk (cC u) (cD (c_ ws t))) .none:=by
 have hq:∀q∈ws.map eX,q∈lx:=λq hq=>by
  refine ay (cF.mp hq) λw hw aE=>?_;subst aE
  exact cF.mpr ⟨w,lW h w hw,rfl⟩
 exact Nl aV h hp (Ep aV (t:=t) hp hq (by rw [cZ];exact hf) (DG aV ch pl)) (by assumption) gh gi ll qf pe le h4
end
structure ki where
 pl:ah
 rm:ah
 lo:G D
 up:G D
noncomputable def aeu(k:H):G ki:=match k with
 |0=>[⟨false,false,[],[]⟩,⟨true,false,[aC],[]⟩,⟨false,true,[aC],[aC]⟩,⟨true,true,[aC],[aC]⟩]
 |1=>[⟨false,false,[],[]⟩,⟨true,false,[ai],[]⟩,⟨false,true,[ai],[ai]⟩,⟨true,true,[ai],[ai]⟩]
 |2=>[⟨false,false,[],[]⟩,⟨true,false,[bF],[]⟩,⟨false,true,[ak],[ak]⟩,⟨true,true,[bF,ak],[ak]⟩,⟨true,true,[ak,bF],[ak]⟩]
 |_=>[⟨false,false,[],[]⟩,⟨true,false,[ai],[]⟩,⟨false,true,[af],[af]⟩,⟨true,true,[ai,af],[af]⟩,⟨true,true,[af,ai],[af]⟩]
noncomputable def Dl(u:H):G D:=match u with
 |0=>[]
 |1=>[ak]
 |_=>[aK]
noncomputable def jd(k u:H):G ki:=mapA (λq=>⟨q.pl,q.rm,q.lo,@bN (λ_=>G D) (app (Dl u) q.up) (Dl u) (cT (Dl u) q.up)⟩) (aeu k)
noncomputable def i7(w:H):ah:=bA w 0||bA w 5
noncomputable def Dk(a b:ah):ah:=!(qt a b)
noncomputable def Ff(B:G ki)(a b:ah)(lo up:G D):ah:=!(allB (λq=>!(Dk q.pl a&&Dk q.rm b&&cT q.lo lo&&cT q.up up)) B)
noncomputable def iI(k num w:H)(d:ah):D:=sub (qc k num w d) (eX w)
noncomputable def lK(num w:H)(on:aa H):aa H:=match w with
 |2=>some num
 |_=>on
noncomputable def rd(k w:H)(q:ki):H:=match bA k 3&&(q.pl||i7 w)&&(q.rm||fH w) with
 |true=>3
 |false=>0
noncomputable def vw(k u num w:H)(d:ah)(on:aa H)(q:ki):ah:=match m8 16 [iI k num w d] ⟨q.lo,q.up,gv on,gv on⟩ with
 |some E=>E.fl&&eB E.k 14&&eB E.p (rd k w q)&&Ff (jd k u) (q.pl||i7 w) (q.rm||fH w) E.s.tl E.s.tu&&cT E.s.nl (gv (lK num w on))&&cT E.s.nu (gv (lK num w on))
 |.none=>false
noncomputable def IB:G (H×ah):=[(0,false),(1,false),(3,false),(3,true),(4,false),(5,false)]
noncomputable def lI(k u:H):ah:=allB (λq=>allB (λwd=>allB (λon=>vw k u 1 wd.1 wd.2 on q) jI) IB&&allB (λnum=>vw k u num 2 false .none q&&vw k u num 2 false (some num) q) [1,2,3]) (jd k u)
noncomputable def vY(k:H)(a b:ah):aa D:=match b with
 |true=>some (fR k)
 |false=>match a with
  |true=>some (hU k)
  |false=>.none
noncomputable def Ov(a b:aa D):ah:=match a with
 |some x=>match b with
  |some y=>eW x y
  |.none=>false
 |.none=>match b with
  |some _=>false
  |.none=>true
noncomputable def US(k:H)(q:ki):ah:=!(allB (λr=>!(cT r.lo q.lo&&cT r.up q.up&&Ov r.told (vY k q.pl q.rm)&&(r.one||q.rm))) fL)
noncomputable def ends(k u:H):ah:=allB (US k) (jd k u)&&Ff (jd k u) false false [] (match u with
 |0=>[]
 |1=>[ak]
 |_=>[aK])
noncomputable def J9(I a b:ah):ah:=@bN (λ_=>ah) b a I
theorem Zp:lI 0 0=true:=by kernel_rfl
theorem Zq:lI 0 1=true:=by kernel_rfl
theorem Zr:lI 0 2=true:=by kernel_rfl
theorem Zs:lI 1 0=true:=by kernel_rfl
theorem Zt:lI 1 1=true:=by kernel_rfl
theorem Zu:lI 1 2=true:=by kernel_rfl
theorem Zv:lI 2 0=true:=by kernel_rfl
theorem Zw:lI 2 1=true:=by kernel_rfl
theorem Zx:lI 2 2=true:=by kernel_rfl
theorem Zy:lI 3 0=true:=by kernel_rfl
theorem Zz:lI 3 1=true:=by kernel_rfl
theorem ZA:lI 3 2=true:=by kernel_rfl
theorem UX:allB (λk=>allB (λu=>ends k u) [0,1,2]) [0,1,2,3]=true:=by kernel_rfl
theorem aeI:allB (λk=>allB (λu=>allB (λq=>allB (λon=>match m8 3 [sub j0 ak] ⟨q.lo,q.up,gv on,gv on⟩ with|some E=>E.fl&&eB E.k 3&&eB E.p 0&&cT E.s.tl q.lo&&cT E.s.tu q.up&&cT E.s.nl (gv on)&&cT E.s.nu (gv on)|.none=>false) jI) (jd k u)) [0,1,2]) [0,1,2,3]=true:=by kernel_rfl
theorem abk:allB (λk=>allB (λq=>q.rm||J9 q.pl (cT q.lo [hU k]) (cT q.lo [])&&cT q.up []) (jd k 0)) [0,1,2,3]=true:=by kernel_rfl
theorem xn{α:Type}{f:α->ah}{B:G α}(e:(!(allB (λq=>!(f q)) B))=true):∃q∈B,f q=true:=by
 induction B with
 |nil=>exact bz e
 |cons a B O=>
  have e':(!(!(f a)&&allB (λq=>!(f q)) B))=true:=e
  cases I:f a with
  |true=>exact⟨a,.head _,I⟩
  |false=>
   rw [I] at e'
   exact(O e').imp λq h=>⟨.tail _ h.1,h.2⟩
theorem zO(e:Dk a b=true):a=b:=by
 cases a<;>cases b<;>first|rfl|nomatch e
structure Got(B:G D)(s s':Sg)(kk pp:H):Prop where
 ok:i4 s'
 ch:∀d,Chain WS 60 gx dK.1 dK.2 B (sT s d) (jr s) kk pp (.good (sT s' d) (jr s'))
theorem Got.app(x:Got B s s' a b)(y:Got l' s' s2 I d):Got (B++l') s s2 (a+I) (b+d):=⟨y.ok,λg=>(x.ch g).append rfl (y.ch g)⟩
theorem Got.of(hs:i4 s)(e:m8 n B s=some E)(hf:E.fl=true):Got B s E.s E.k E.p:=
 ⟨(J3 (d:=true) hs e).2,λd=>by have:=(J3 (d:=d) hs e).1;rw [hf] at this;exact this⟩
noncomputable def fE(q:ki)(on:aa H):Sg:=⟨q.lo,q.up,gv on,gv on⟩
structure Step(k u num w:H)(q q':ki)(kk pp:H):Prop where
 mem:q'∈jd k u
 pl:q'.pl=(q.pl||i7 w)
 rm:q'.rm=(q.rm||fH w)
 kl:kk<=14
 p:pp<=rd k w q
theorem Hz{s:Sg}(h1:s.tl=a)(h2:s.tu=b)(h3:s.nl=I)(h4:s.nu=d):s=⟨a,b,I,d⟩:=by subst h1 h2 h3 h4;rfl
theorem Ga{k u num w:H}{d:ah}(h:vw k u num w d on q=true)(hs:i4 (fE q on)):∃q' kk pp,Step k u num w q q' kk pp/\Got [iI k num w d] (fE q on) (fE q' (lK num w on)) kk pp:=by
 unfold vw at h
 cases e:m8 16 [iI k num w d] ⟨q.lo,q.up,gv on,gv on⟩ with
 |none=>rw [e] at h;nomatch h
 |some E=>
  rw [e] at h
  refine xA (aN.mp h) λh h6=>?_
  refine xA (aN.mp h) λh h5=>?_
  refine xA (aN.mp h) λh h4=>?_
  refine xA (aN.mp h) λh h3=>?_
  refine xA (aN.mp h) λh1 h2=>?_
  refine ay (xn h4) λq' m e4=>?_
  refine xA (aN.mp e4) λe4 z4=>?_
  refine xA (aN.mp e4) λe4 z3=>?_
  refine xA (aN.mp e4) λz1 z2=>?_
  have g:=Got.of (s:=fE q on) hs e h1
  have R:E.s=fE q' (lK num w on):=Hz (eu z3).symm (eu z4).symm (eu h5) (eu h6)
  rw [R] at g
  exact⟨q',E.k,E.p,⟨m,zO z1,zO z2,dw h2,dw h3⟩,g⟩
theorem qZ(h:u<3):u=0\/u=1\/u=2:=(by decide:∀u,u<3->u=0\/u=1\/u=2) u h
theorem pX(h:u<4):u=0\/u=1\/u=2\/u=3:=(by decide:∀u,u<4->u=0\/u=1\/u=2\/u=3) u h
theorem ZC(hk:k<4)(hu:u<3):lI k u=true:=by
 rcases pX hk with rfl|rfl|rfl|rfl<;>rcases qZ hu with rfl|rfl|rfl
 .exact Zp
 .exact Zq
 .exact Zr
 .exact Zs
 .exact Zt
 .exact Zu
 .exact Zv
 .exact Zw
 .exact Zx
 .exact Zy
 .exact Zz
 .exact ZA
noncomputable def CO(num:H)(on:aa H):Prop:=on=.none\/on=some num
theorem adX{k u num w:H}(hk:k<4)(hu:u<3)(hn:num∈[1,2,3])(hw:w∈six)(hq:q∈jd k u)(ho:CO num on)(hs:i4 (fE q on)):∃q' kk pp,Step k u num w q q' kk pp/\Got [iI k num w d] (fE q on) (fE q' (lK num w on)) kk pp:=by
 refine xA (aN.mp (b7 (ZC hk hu) q hq)) λm1 m2=>?_
 have yo:on∈jI:=by
  rcases ho with rfl|rfl
  .exact .head _
  .exact .tail _ (cF.mpr ⟨num,hn,rfl⟩)
 have use:∀{w:H} {d:ah},(w,d)∈IB->vw k u 1 w d on q=true:=λh=>b7 (b7 m1 _ h) on yo
 have go:∀{w:H} {d d':ah},(w,d')∈IB->iI k 1 w d'=iI k num w d->lK 1 w on=lK num w on->∃q' kk pp,Step k u num w q q' kk pp/\Got [iI k num w d] (fE q on) (fE q' (lK num w on)) kk pp:=λh e e2=>by
  refine dO (Ga (use h) hs) λq' kk pp st g=>?_
  rw [e,e2] at g
  exact⟨q',kk,pp,⟨st.mem,st.pl,st.rm,st.kl,st.p⟩,g⟩
 simp only [six,bY,eP,gH] at hw
 rcases hw with rfl|rfl|rfl|rfl|rfl|rfl
 .exact go (d':=false) (by decide) rfl rfl
 .exact go (d':=false) (by decide) rfl rfl
 .refine xA (aN.mp (b7 m2 num hn)) λn1 n2=>?_
  rcases ho with rfl|rfl
  .exact Ga (d:=false) n1 hs
  .exact Ga (d:=false) n2 hs
 .cases d
  .exact go (d':=false) (by decide) rfl rfl
  .exact go (d':=true) (by decide) rfl rfl
 .exact go (d':=false) (by decide) rfl rfl
 .exact go (d':=false) (by decide) rfl rfl
noncomputable def jK(num:H)(B:G (H×ah))(on:aa H):aa H:=match B.any λwd=>bA wd.1 2 with
 |true=>some num
 |false=>on
structure Parts(k u num:H)(B:G (H×ah))(q q':ki)(kk pp:H):Prop where
 mem:q'∈jd k u
 pl:q'.pl=(q.pl||B.any λwd=>i7 wd.1)
 rm:q'.rm=(q.rm||B.any λwd=>fH wd.1)
 kl:kk<=14*B.length
 p:pp<=3*B.length
 p0:(bA k 3&&q'.pl&&q'.rm)=false->pp=0
theorem GY{k u num:H}(hk:k<4)(hu:u<3)(hn:num∈[1,2,3]):∀{B:G (H×ah)},(∀wd∈B,wd.1∈six)->∀{q:ki},q∈jd k u->∀{on:aa H},CO num on->i4 (fE q on)->
  ∃q' kk pp,Parts k u num B q q' kk pp/\Got (B.map λwd=>iI k num wd.1 wd.2) (fE q on) (fE q' (jK num B on)) kk pp:=by
 intro B
 induction B with
 |nil=>exact λ_ q hq on ho hs=>⟨q,0,0,⟨hq,(qr _).symm,(qr _).symm,fG _,fG _,λ_=>rfl⟩,⟨hs,λd=>.done⟩⟩
 |cons wd B O=>
  obtain⟨w,d⟩:=wd
  intro hl q hq on ho hs
  refine dO (adX hk hu hn (hl _ (.head _)) (d:=d) hq ho hs) λq1 k1 p1 st g1=>?_
  have AE:CO num (lK num w on):=by
   unfold lK
   split
   .exact .inr rfl
   .exact ho
  refine dO (O (λwd h=>hl wd (.tail _ h)) st.mem AE g1.ok) λq2 k2 p2 ps g2=>?_
  refine⟨q2,k1+k2,p1+p2,⟨ps.mem,?_,?_,?_,?_,λe=>?_⟩,?_⟩
  .rw [ps.pl,st.pl,Qf];rfl
  .rw [ps.rm,st.rm,Qf];rfl
  .have:=st.kl;have:=ps.kl;rw [iQ];lia
  .have:p1<=rd k w q:=st.p;have:=ps.p;rw [iQ]
   have:rd k w q<=3:=by unfold rd;split<;>decide
   lia
  .have e2:=ps.p0 e
   have e1:rd k w q=0:=by
    unfold rd
    rw [ps.pl,ps.rm,st.pl,st.rm] at e
    revert e
    generalize bA k 3=x0
    generalize (q.pl||i7 w)=x1
    generalize (q.rm||fH w)=x2
    cases x0<;>cases x1<;>cases x2<;>simp
   have:p1<=rd k w q:=st.p
   lia
  .have e:jK num B (lK num w on)=jK num ((w,d)::B) on:=by
    unfold jK
    rw [qy]
    cases I:B.any λwd=>bA wd.1 2 with
    |true=>rw [Bool.or_true]
    |false=>
     rw [qr]
     by_cases h:w=2
     .rw [h];rfl
     .have:bA w 2=false:=by
       cases I:bA w 2 with
       |true=>exact bP (dU I) h
       |false=>rfl
      refine(?_:lK num w on=match bA w 2 with|true=>some num|false=>on)
      rw [this]
      unfold lK
      split
      .exact bP rfl h
      .rfl
   rw [<-e]
   exact g1.app g2
noncomputable def cY(k num:H)(aG:G (H×ah))(ik:H):G D:=aG.map (λwd=>qc k num wd.1 wd.2)++dh ik j0
noncomputable def bD(aG:G (H×ah)):G H:=aG.map λwd=>wd.1
noncomputable def i6(k num:H)(aG:G (H×ah)):G D:=aG.map λwd=>iI k num wd.1 wd.2
theorem blt_true(h:i<n):dB i n=true:=Jv h
theorem blt_false(h:n<=i):dB i n=false:=by
 cases I:dB i n with
 |false=>rfl
 |true=>exact bP (dw I) (g7.mpr h)
theorem V8(h1:ps[i]?=some a)(h2:ws[i]?=some b):qP ps ws i=sub a b:=by
 unfold qP
 rw [blt_true (eM.mp h2).1,Cr,Cr,h1,h2]
 rfl
theorem V9(h1:ps[i]?=some a)(h2:ws.length<=i):qP ps ws i=sub a ak:=by
 unfold qP
 rw [blt_false h2,Cr,h1]
 rfl
theorem LS(ps ws tl:G D)(h:ps.length=ws.length):jE (ps++tl) ws=(tl.map λt=>sub t ak).reverse++(CB sub ps ws).reverse:=by
 unfold jE
 rw [<-zm]
 congr 1
 apply List.ext_getElem?
 intro i
 rw [tZ,fy]
 have hz:(CB sub ps ws).length=ps.length:=by rw [List.length_zipWith,<-h,wH]
 by_cases h1:i<ps.length
 .have h2:i<ws.length:=h▸h1
  rw [QL (nY h1 (ig ..)),JD,iD (hz.symm▸h1),List.getElem?_zipWith,cV h1,cV h2]
  exact cq some (V8 (by rw [iD h1,cV h1]) (cV h2))
 .have h1:=g7.mp h1
  rw [mS (hz.symm▸h1),hz,tZ]
  by_cases h2:i<ps.length+tl.length
  .have h3:i-ps.length<tl.length:=Nat.sub_lt_left_of_lt_add h1 h2
   rw [QL h2,JD,cV h3,JD]
   exact cq some (V9 (by rw [mS h1,cV h3]) (h▸h1))
  .rw [Jl (by rw [wB];exact g7.mp h2),Jl (Nat.le_sub_of_add_le (mV .. ▸g7.mp h2))];rfl
theorem IP(k num:H)(aG:G (H×ah)):CB sub (aG.map λwd=>qc k num wd.1 wd.2) ((bD aG).map eX)=i6 k num aG:=by
 unfold bD i6
 rw [zk]
 induction aG with
 |nil=>rfl
 |cons a B O=>rw [lj,lj,lj,List.zipWith_cons_cons,O];rfl
theorem LU(k num:H)(aG:G (H×ah))(ik:H):jE (cY k num aG ik) ((bD aG).map eX)=dh ik (sub j0 ak)++i6 k num aG.reverse:=by
 unfold cY
 rw [LS _ _ _ (by unfold bD;rw [cZ,cZ,cZ]),IP,Jp,Q3]
 unfold i6
 rw [Cy]
theorem GL{num:H}:jK num B.reverse on=jK num B on:=by
 unfold jK
 rw [wy]
theorem aeK(hk:k<4)(hu:u<3)(hq:q∈jd k u)(ho:on∈jI)(hs:i4 (fE q on)):∃kk,kk<=3/\Got [sub j0 ak] (fE q on) (fE q on) kk 0:=by
 have lC:k∈[0,1,2,3]:=by rcases pX hk with rfl|rfl|rfl|rfl<;>decide
 have hI:u∈[0,1,2]:=by rcases qZ hu with rfl|rfl|rfl<;>decide
 have h:=b7 (b7 (b7 (b7 aeI k lC) u hI) q hq) on ho
 generalize e:m8 3 [sub j0 ak] ⟨q.lo,q.up,gv on,gv on⟩=ax at h
 cases ax with
 |none=>nomatch h
 |some E=>
  refine xA (aN.mp h) λh h6=>?_
  refine xA (aN.mp h) λh h5=>?_
  refine xA (aN.mp h) λh h4=>?_
  refine xA (aN.mp h) λh h3=>?_
  refine xA (aN.mp h) λh h2=>?_
  refine xA (aN.mp h) λh1 Wi=>?_
  have g:=Got.of (s:=fE q on) hs e h1
  have R:E.s=fE q on:=Hz (eu h3) (eu h4) (eu h5) (eu h6)
  rw [R,Jx.mp (dw h2)] at g
  exact⟨E.k,dw Wi,g⟩
theorem aeL(hk:k<4)(hu:u<3)(hq:q∈jd k u)(ho:on∈jI)(hs:i4 (fE q on)):∃kk,kk<=3*ik/\Got (dh ik (sub j0 ak)) (fE q on) (fE q on) kk 0:=by
 induction ik with
 |zero=>exact⟨0,fG _,hs,λd=>.done⟩
 |succ n O=>
  refine ay (aeK hk hu hq ho hs) λk1 l1 g1=>?_
  refine ay O λk2 l2 g2=>?_
  exact⟨k1+k2,mV k2 k1▸CE l2 l1,g1.app g2⟩
noncomputable def rj(u:H):ki:=⟨false,false,[],o6 u⟩
theorem XM{lo up:G D}(h:Ff B a b lo up=true):(⟨a,b,lo,up⟩:ki)∈B:=by
 refine ay (xn h) λq m e=>?_
 refine xA (aN.mp e) λe z4=>?_
 refine xA (aN.mp e) λe z3=>?_
 refine xA (aN.mp e) λz1 z2=>?_
 have:q=⟨a,b,lo,up⟩:=by
  rw [<-zO z1,<-zO z2,<-eu z3,<-eu z4]
 exact this▸m
theorem Lh(hk:k<4)(hu:u<3):ends k u=true:=by
 have lC:k∈[0,1,2,3]:=by rcases pX hk with rfl|rfl|rfl|rfl<;>decide
 have hI:u∈[0,1,2]:=by rcases qZ hu with rfl|rfl|rfl<;>decide
 exact b7 (b7 UX k lC) u hI
theorem BS(hk:k<4)(hu:u<3):rj u∈jd k u:=by
 have:=XM (aN.mp (Lh hk hu)).2
 rcases qZ hu with rfl|rfl|rfl<;>exact this
theorem wY(hu:u<3):i4 (fE (rj u) .none):=by
 rcases qZ hu with rfl|rfl|rfl<;>exact⟨rfl,rfl,rfl,rfl⟩
theorem ac3(h:Ov a b=true):a=b:=by
 cases a<;>cases b<;>first|rfl|exact cq some (iK h)|exact bz h
theorem UU(hk:k<4)(hu:u<3)(hq:q∈jd k u):∃r∈fL,r.lo=q.lo/\r.up=q.up/\r.told=vY k q.pl q.rm/\(q.rm=false->r.one=true):=by
 refine ay (xn (b7 (aN.mp (Lh hk hu)).1 q hq)) λr m e=>?_
 refine xA (aN.mp e) λe z4=>?_
 refine xA (aN.mp e) λe z3=>?_
 refine xA (aN.mp e) λz1 z2=>?_
 refine⟨r,m,eu z1,eu z2,ac3 z3,λh=>?_⟩
 rw [h,qr] at z4
 exact z4
theorem N3{k num:H}(hk:k<4)(hn:num∈[1,2,3])(hw:w∈six):qc k num w d∈hH:=by
 have:allB (λk=>allB (λnum=>allB (λw=>allB (λd=>!(allB (λp=>!(eW p (qc k num w d))) hH)) [false,true]) six) [1,2,3]) [0,1,2,3]=true:=by kernel_rfl
 have lC:k∈[0,1,2,3]:=by rcases pX hk with rfl|rfl|rfl|rfl<;>decide
 obtain⟨p,m,e⟩:=xn (b7 (b7 (b7 (b7 this k lC) num hn) w hw) d (by cases d<;>decide))
 exact iK e▸m
theorem vK{k num:H}(hk:k<4)(hn:num∈[1,2,3])(hw:∀wd∈aG,wd.1∈six):∀p∈cY k num aG ik,p∈hH:=λp hp=>by
 refine dC (dI.mp hp) (λh=>?_) λh=>?_
 .refine ay (cF.mp h) λwd m aE=>?_;rw [<-aE]
  exact N3 hk hn (hw wd m)
 .rw [(Q0.mp h).2]
  exact .tail _ (.tail _ (.tail _ (.head _)))
theorem Ao(hp:∀p∈ps,p∈hH)(hw:∀w∈ws,w∈lx):∀z∈jE ps ws,bC z=true:=λz hz=>by
 refine ay (cF.mp (qB.mp hz)) λi hi aE=>?_;subst aE
 have hi:=md.mp hi
 have k1:bC (ps.getD i .none)=true:=(aN.mp (b7 uq _ (hp _ (getD_mem hi)))).1
 have k2:bC (match dB i ws.length with|true=>ws.getD i .none|false=>ak)=true:=by
  cases I:dB i ws.length with
  |true=>exact(aN.mp (b7 JZ _ (hw _ (getD_mem (dw I))))).1
  |false=>rfl
 unfold qP
 rw [<-fB]
 refine(?_:bE (.tup [Ht,_,_])=true)
 rw [nG]
 refine(?_:(bE Ht&&(bE _&&(bE _&&true)))=true)
 rw [fB (ps.getD i .none),k1]
 rw [<-fB] at k2
 erw [k2]
 rfl
theorem B9(h:ws∈dq):∀q∈ws.map eX,q∈lx:=λq hq=>by
 refine ay (cF.mp hq) λw hw aE=>?_;subst aE
 exact cF.mpr ⟨w,lW h w hw,rfl⟩
section
variable{c:a_}{w:dF}{J:aP}{K:b8}{mg mb:ar->aa aw}
theorem ZI(aV:Base c w K cz J mg mb){k u num:H}(hk:k<4)(hu:u<3)(hn:num∈[1,2,3])(h:bD aG∈dq)(hf:(aG.length+ik,aG.length,t)∈fits):
  kh c w J aH 180 (oneOf (cY k num aG ik)) (dk (cC u) (cD (c_ (bD aG) t))) (sr (vY k (aG.any λwd=>i7 wd.1) (aG.any λwd=>fH wd.1)) (jK num aG .none)):=by
 have hw:∀wd∈aG,wd.1∈six:=λwd m=>lW h _ (cF.mpr ⟨wd,m,rfl⟩)
 have mA:aG.length<=3/\ik<=2:=by
  have:=(by decide:∀q∈fits,q.2.1<=3/\q.1<=q.2.1+2) _ hf
  exact⟨this.1,Rc this.2⟩
 refine ay (aeL hk hu (BS (k:=k) hk hu) (on:=.none) (.head _) (wY hu) (ik:=ik)) λk1 l1 g1=>?_
 refine dO (GY hk hu hn (B:=aG.reverse) (λwd m=>hw wd (qB.mp m)) (BS hk hu) (.inl rfl) g1.ok) λq k2 p2 P g2=>?_
 have g:=g1.app g2
 rw [GL] at g
 have uD:q.pl=aG.any λwd=>i7 wd.1:=by rw [P.pl,wy];rfl
 have pJ:q.rm=aG.any λwd=>fH wd.1:=by rw [P.rm,wy];rfl
 refine iZ (UU hk hu P.mem) λr hr e1 e2 bB=>xA bB λe3 e4=>?_
 have nL:=vK hk hn hw (ik:=ik)
 have yo:jK num aG .none∈jI:=by
  unfold jK
  split
  .exact .tail _ (cF.mpr ⟨num,hn,rfl⟩)
  .exact .head _
 rw [<-uD,<-pJ,<-e3]
 have lk:=P.kl
 have lp:=P.p
 rw [ez] at lk lp
 refine ZG aV h nL (k:=k1+k2) (p:=0+p2) ?_ hr yo ?_ (Ao nL (B9 h)) (by lia) (by lia) ?_ ?_
 .unfold cY bD
  rw [fy,cZ,dZ,cZ]
  exact hf
 .rw [LU]
  have:=g.ch (gg (bD aG))
  unfold sT jr fE at this
  rw [<-e1,<-e2] at this
  exact this
 .have:=g.ok
  rw [e1,e2]
  exact⟨this.1,this.2.1⟩
 .intro e
  refine e4 ?_
  rw [pJ]
  unfold gg at e
  have e:=(aN.mp e).2
  unfold bD at e
  rw [Cp] at e
  cases I:aG.any λwd=>fH wd.1 with
  |false=>rfl
  |true=>
   have e:(!(aG.any λwd=>fH wd.1))=true:=e
   rw [I] at e;nomatch e
end
structure mi where
 gs:G D
 tl:G D
 tu:G D
 k:H
 R:G (G D)
 lf:G D
 yL:G D
 yM:G D
noncomputable def Iq(k f:H):H:=@nZ (λ_=>H) f (λ_=>cX) k
noncomputable def Oo(f:H)(aY:G D)(d:ah)(r:mi):aa Lz:=Nf WS 60 gx dK.1 dK.2 (stH (Iq r.k f) (app r.gs aY) [] (side 1 r.tl r.tu d) (.tok 2))
noncomputable def Lr(f:H)(aY:G D)(d:ah)(r:mi):aa Lz:=some ⟨⟨false,.fuel f,app r.lf aY,side 1 r.yL r.yM d,.tok 2,iA r.R⟩,mapA (λe=>app e aY) r.R⟩
noncomputable def tM:G mi:=[
 ⟨[sub aF af,sub aF ak],[af,aF],[ak,af],2,[[sub aF aC,sub aF ak]],[sub aF ak],[af,aF],[ak,af]⟩,
 ⟨[sub aF af,sub aF aK],[af,aF],[aK,af],2,[[sub aF aC,sub aF aK]],[sub aF aK],[af,aF],[aK,af]⟩,
 ⟨[sub ai af,sub af vT,sub aF vT],[ai],[ak,af],10,[[sub aF aC,sub aF ak],[sub ai aC,sub af vT,sub aF vT]],[sub aF ak],[ai,af,aF],[ak,af]⟩,
 ⟨[sub ai af,sub af vT,sub aF vT],[ai],[aK,af],10,[[sub aF aC,sub aF aK],[sub ai aC,sub af vT,sub aF vT]],[sub aF aK],[ai,af,aF],[aK,af]⟩,
 ⟨[sub ai af,sub ai ak,sub aF vT],[af,ai],[ak,af],6,[[sub aF aC,sub aF ak],[sub ai aC,sub ai ak,sub aF vT]],[sub aF ak],[af,ai,aF],[ak,af]⟩,
 ⟨[sub ai af,sub ai aK,sub aF vT],[af,ai],[aK,af],6,[[sub aF aC,sub aF aK],[sub ai aC,sub ai aK,sub aF vT]],[sub aF aK],[af,ai,aF],[aK,af]⟩,
 ⟨[sub ai af,sub aF (arr vT (num 1))],[af,ai],[af],3,[[sub ai aC,sub aF (arr vT (num 1))]],[],[af,ai],[af]⟩,
 ⟨[sub ai af,sub ai ak,sub aF (arr vT (num 1))],[af,ai],[ak,af],4,[[sub ai aC,sub ai ak,sub aF (arr vT (num 1))]],[],[af,ai],[ak,af]⟩,
 ⟨[sub ai af,sub ai aK,sub aF (arr vT (num 1))],[af,ai],[aK,af],4,[[sub ai aC,sub ai aK,sub aF (arr vT (num 1))]],[],[af,ai],[aK,af]⟩,
 ⟨[sub ai af,sub af vT,sub aF (arr vT (num 1))],[ai],[af],5,[[sub ai aC,sub af vT,sub aF (arr vT (num 1))]],[],[ai,af],[af]⟩,
 ⟨[sub ai af,sub af vT,sub aF (arr vT (num 1))],[ai],[ak,af],8,[[sub ai aC,sub af vT,sub aF (arr vT (num 1))]],[],[ai,af],[ak,af]⟩,
 ⟨[sub ai af,sub af vT,sub aF (arr vT (num 1))],[ai],[aK,af],8,[[sub ai aC,sub af vT,sub aF (arr vT (num 1))]],[],[ai,af],[aK,af]⟩,
 ⟨[sub ai af,sub aF (arr vT vN)],[af,ai],[af],3,[[sub ai aC,sub aF (arr vT vN)]],[],[af,ai],[af]⟩,
 ⟨[sub ai af,sub ai ak,sub aF (arr vT vN)],[af,ai],[ak,af],4,[[sub ai aC,sub ai ak,sub aF (arr vT vN)]],[],[af,ai],[ak,af]⟩,
 ⟨[sub ai af,sub ai aK,sub aF (arr vT vN)],[af,ai],[aK,af],4,[[sub ai aC,sub ai aK,sub aF (arr vT vN)]],[],[af,ai],[aK,af]⟩,
 ⟨[sub ai af,sub af vT,sub aF (arr vT vN)],[ai],[af],5,[[sub ai aC,sub af vT,sub aF (arr vT vN)]],[],[ai,af],[af]⟩,
 ⟨[sub ai af,sub af vT,sub aF (arr vT vN)],[ai],[ak,af],8,[[sub ai aC,sub af vT,sub aF (arr vT vN)]],[],[ai,af],[ak,af]⟩,
 ⟨[sub ai af,sub af vT,sub aF (arr vT vN)],[ai],[aK,af],8,[[sub ai aC,sub af vT,sub aF (arr vT vN)]],[],[ai,af],[aK,af]⟩,
 ⟨[sub ai af,sub aF ak],[af,ai],[af],3,[[sub ai aC,sub aF ak]],[],[af,ai],[af]⟩,
 ⟨[sub ai af,sub ai ak,sub aF ak],[af,ai],[ak,af],4,[[sub ai aC,sub ai ak,sub aF ak]],[],[af,ai],[ak,af]⟩,
 ⟨[sub ai af,sub ai aK,sub aF ak],[af,ai],[aK,af],4,[[sub ai aC,sub ai aK,sub aF ak]],[],[af,ai],[aK,af]⟩,
 ⟨[sub ai af,sub af vT,sub aF ak],[ai],[af],5,[[sub ai aC,sub af vT,sub aF ak]],[],[ai,af],[af]⟩,
 ⟨[sub ai af,sub af vT,sub aF ak],[ai],[ak,af],8,[[sub ai aC,sub af vT,sub aF ak]],[],[ai,af],[ak,af]⟩,
 ⟨[sub ai af,sub af vT,sub aF ak],[ai],[aK,af],8,[[sub ai aC,sub af vT,sub aF ak]],[],[ai,af],[aK,af]⟩,
 ⟨[sub ai af,sub aF (gz vT)],[af,ai],[af],3,[[sub ai aC,sub aF (gz vT)]],[],[af,ai],[af]⟩,
 ⟨[sub ai af,sub ai ak,sub aF (gz vT)],[af,ai],[ak,af],4,[[sub ai aC,sub ai ak,sub aF (gz vT)]],[],[af,ai],[ak,af]⟩,
 ⟨[sub ai af,sub ai aK,sub aF (gz vT)],[af,ai],[aK,af],4,[[sub ai aC,sub ai aK,sub aF (gz vT)]],[],[af,ai],[aK,af]⟩,
 ⟨[sub ai af,sub af vT,sub aF (gz vT)],[ai],[af],5,[[sub ai aC,sub af vT,sub aF (gz vT)]],[],[ai,af],[af]⟩,
 ⟨[sub ai af,sub af vT,sub aF (gz vT)],[ai],[ak,af],8,[[sub ai aC,sub af vT,sub aF (gz vT)]],[],[ai,af],[ak,af]⟩,
 ⟨[sub ai af,sub af vT,sub aF (gz vT)],[ai],[aK,af],8,[[sub ai aC,sub af vT,sub aF (gz vT)]],[],[ai,af],[aK,af]⟩,
 ⟨[sub ai af,sub aF (gP vT aC)],[af,ai],[af],3,[[sub ai aC,sub aF (gP vT aC)]],[],[af,ai],[af]⟩,
 ⟨[sub ai af,sub ai ak,sub aF (gP vT aC)],[af,ai],[ak,af],4,[[sub ai aC,sub ai ak,sub aF (gP vT aC)]],[],[af,ai],[ak,af]⟩,
 ⟨[sub ai af,sub ai aK,sub aF (gP vT aC)],[af,ai],[aK,af],4,[[sub ai aC,sub ai aK,sub aF (gP vT aC)]],[],[af,ai],[aK,af]⟩,
 ⟨[sub ai af,sub af vT,sub aF (gP vT aC)],[ai],[af],5,[[sub ai aC,sub af vT,sub aF (gP vT aC)]],[],[ai,af],[af]⟩,
 ⟨[sub ai af,sub af vT,sub aF (gP vT aC)],[ai],[ak,af],8,[[sub ai aC,sub af vT,sub aF (gP vT aC)]],[],[ai,af],[ak,af]⟩,
 ⟨[sub ai af,sub af vT,sub aF (gP vT aC)],[ai],[aK,af],8,[[sub ai aC,sub af vT,sub aF (gP vT aC)]],[],[ai,af],[aK,af]⟩]
theorem aeG(f:H)(aY:G D)(d:ah):tM.map (Oo f aY d)=tM.map (Lr f aY d):=by kernel_rfl
noncomputable def xc(a:G D):G D->aa (G D):=@b9 D (λ_=>G D->aa (G D)) (λB=>some B) (λx _ f B=>match B with
 |[]=>.none
 |y::B=>@bN (λ_=>aa (G D)) .none (f B) (eW x y)) a
noncomputable def findZ(B:G mi)(left:G D)(s:Sg):aa (mi×G D):=@b9 mi (λ_=>aa (mi×G D)) .none (λr _ O=>@bN (λ_=>aa (mi×G D)) O (match xc r.gs left with
 |some aY=>some (r,aY)
 |.none=>O) (cT r.tl s.tl&&cT r.tu s.tu)) B
structure um where
 k:H
 R:G (G D)
 left:G D
 s:Sg
noncomputable def ur(n:H):G D->Sg->aa um:=@nZ (λ_=>G D->Sg->aa um) (λ_ _=>.none) (λ_ O B s=>match B with
 |[]=>.none
 |g::aY=>match findZ tM (g::aY) s with
  |some q=>some ⟨q.1.k,mapA (λe=>app e q.2) q.1.R,app q.1.lf q.2,⟨q.1.yL,q.1.yM,s.nl,s.nu⟩⟩
  |.none=>match qO oY g s with
   |some r=>match bA r.p 0 with
    |true=>match r.fl with
     |true=>match O (app r.subs aY) (jn r s) with
      |some E=>some ⟨cX E.k,E.R,E.left,E.s⟩
      |.none=>.none
     |false=>some ⟨1,[],app r.subs aY,jn r s⟩
    |false=>.none
   |.none=>.none) n
noncomputable def pN(g:D)(B:G D):ah:=match B with
 |a::_=>eW g a
 |[]=>false
noncomputable def Ln(R:G (G D)):ah:=match R with
 |[]=>true
 |e::R=>match R with
  |[]=>pN (sub ai aC) e||pN (sub aF aC) e
  |e'::R=>match R with
   |[]=>pN (sub aF aC) e&&pN (sub ai aC) e'
   |_=>false
noncomputable def af1(kb:H)(E:um):ah:=eB E.k kb&&Ln E.R&&allB bE E.left&&eB E.left.length 20&&allB (λe=>allB bE e&&eB e.length 20) E.R
noncomputable def vA(kb:H)(Wf:G D)(s:Sg):ah:=match ur 50 Wf s with
 |some E=>af1 kb E
 |.none=>false
noncomputable def aao(k u:H):ah:=allB (λq=>allB (λon=>allB (λw=>vA 14 [sub aF (eX w)] ⟨q.lo,q.up,gv on,gv on⟩) [1,2,3,4,5]) jI) (jd k u)
noncomputable def aaq(k u:H):ah:=allB (λq=>(bA k 3&&q.pl&&q.rm)||allB (λon=>vA 14 [sub aF vT] ⟨q.lo,q.up,gv on,gv on⟩) jI) (jd k u)
noncomputable def B4(u:H):G D:=match u with
 |0=>[]
 |1=>[ak]
 |_=>[aK]
noncomputable def vB(u a b num:H)(g:D):ah:=vA 45 [iI 3 num a false,iI 3 num b false,g] ⟨[],B4 u,[],[]⟩
noncomputable def aas(u:H):ah:=allB (λpl=>allB (λrm=>allB (λnum=>allB (λw=>vB u pl rm num (sub aF (eX w))&&vB u rm pl num (sub aF (eX w))) [1,2,3,4,5]) [1,2,3]) [1,2,4]) [0,5]
noncomputable def aau(u:H):ah:=allB (λrm=>allB (λnum=>vB u 5 rm num (sub aF vT)&&vB u rm 5 num (sub aF vT)) [1,2,3]) [1,2,4]
noncomputable def hW(k i:H):Sg:=match i with
 |0=>⟨[aF],[],[],[]⟩
 |1=>⟨[hU k,aF],[],[],[]⟩
 |_=>⟨[aF,hU k],[],[],[]⟩
noncomputable def vC(i w:H):H:=match w with
 |3=>i
 |_=>match i with
  |0=>2
  |i=>i
noncomputable def ac4(a b:Sg):ah:=cT a.tl b.tl&&cT a.tu b.tu&&cT a.nl b.nl&&cT a.nu b.nu
noncomputable def qY(s:Sg)(g:D)(s':Sg):ah:=match m8 16 [g] s with
 |some E=>E.fl&&eB E.k 14&&eB E.p 0&&ac4 E.s s'
 |.none=>false
noncomputable def YC(k:H):ah:=qY ⟨[],[],[],[]⟩ (sub aF vT) (hW k 0)&&qY ⟨[hU k],[],[],[]⟩ (sub aF vT) (hW k 1)&&allB (λi=>allB (λwd=>qY (hW k i) (iI k 1 wd.1 wd.2) (hW k (vC i wd.1))) [(0,false),(3,false),(3,true),(5,false)]) [0,1,2]
noncomputable def HY:G rF:=[0,1,2,3].flatMap λk=>[1,2].map λi=>⟨(hW k i).tl,[],.none,false⟩
theorem aap:allB (λk=>allB (λu=>aao k u) [0,1,2]) [0,1,2,3]=true:=by kernel_rfl
theorem aar:allB (λk=>allB (λu=>aaq k u) [1,2]) [0,1,2,3]=true:=by kernel_rfl
theorem aat:allB aas [0,1,2]=true:=by kernel_rfl
theorem aav:allB aau [1,2]=true:=by kernel_rfl
theorem YD:allB YC [0,1,2,3]=true:=by kernel_rfl
theorem aes(f:H)(wr:G D):HY.map (vX true f wr)=HY.map (uI true f wr):=by kernel_rfl
theorem TX:∀{B aY:G D},xc a B=some aY->B=a++aY:=by
 induction a with
 |nil=>exact λe=>aM e
 |cons x a O=>
  intro B aY e
  cases B with
  |nil=>exact aB e
  |cons y B=>
   have e':@bN (λ_=>aa (G D)) .none (xc a B) (eW x y)=some aY:=e
   generalize I:eW x y=ax at e'
   cases ax with
   |false=>exact aB e'
   |true=>
    rw [O e',iK I];rfl
structure I4(r:mi)(B:G mi)(left aY:G D)(s:Sg):Prop where
 mem:r∈B
 left:left=r.gs++aY
 tl:r.tl=s.tl
 tu:r.tu=s.tu
theorem Vx(e:findZ B left s=some q):I4 q.1 B left q.2 s:=by
 induction B with
 |nil=>exact aB e
 |cons r B O=>
  have e':@bN (λ_=>aa (mi×G D)) (findZ B left s) (match xc r.gs left with
   |some aY=>some (r,aY)
   |.none=>findZ B left s) (cT r.tl s.tl&&cT r.tu s.tu)=some q:=e
  have go:findZ B left s=some q->I4 q.1 (r::B) left q.2 s:=λh=>⟨.tail _ (O h).mem,(O h).left,(O h).tl,(O h).tu⟩
  cases I:cT r.tl s.tl&&cT r.tu s.tu with
  |false=>rw [I] at e';exact go e'
  |true=>
   rw [I] at e'
   generalize h:xc r.gs left=ax at e'
   cases ax with
   |none=>exact go e'
   |some aY=>
    have e':=aM e'
    rw [<-e']
    have I:=aN.mp I
    exact⟨.head _,TX h,eu I.1,eu I.2⟩
theorem ae7(k f:H):Iq k f=f+k:=by
 induction k with
 |zero=>rfl
 |succ k O=>show cX (Iq k f)=_;rw [O];rfl
noncomputable def ab4(r:mi):ah:=allB bE r.lf&&eB r.lf.length 6&&allB (λe=>allB bE e&&eB e.length 6) r.R&&eB r.R.length 2&&allB bE r.yL&&allB bE r.yM
theorem aeH:allB ab4 tM=true:=by kernel_rfl
theorem acE(h:r∈tM)(d:ah):CW WS 60 gx dK.1 dK.2 r.gs (side 1 r.tl r.tu d) (.tok 2) r.k r.R r.lf (side 1 r.yL r.yM d) (.tok 2):=λf aY=>by
 have e:=fU (aeG f aY d) r h
 unfold Oo Lr at e
 rw [gM,ae7,gM,nE,pY] at e
 simp only [gM] at e
 exact e
theorem Sx:∀{left:G D} {s:Sg} {E:um},i4 s->ur n left s=some E->(∀d,Chain WS 60 gx dK.1 dK.2 left (sT s d) (jr s) E.k 0 (.bad E.R E.left (sT E.s d) (jr E.s)))/\i4 E.s:=by
 induction n with
 |zero=>exact λ_ e=>aB e
 |succ n O=>
  intro left s E hs e
  cases left with
  |nil=>exact aB e
  |cons g aY=>
  have e':(match findZ tM (g::aY) s with
   |some q=>some ⟨q.1.k,mapA (λe=>app e q.2) q.1.R,app q.1.lf q.2,⟨q.1.yL,q.1.yM,s.nl,s.nu⟩⟩
   |.none=>match qO oY g s with
    |some r=>match bA r.p 0 with
     |true=>match r.fl with
      |true=>match ur n (app r.subs aY) (jn r s) with
       |some E=>some ⟨cX E.k,E.R,E.left,E.s⟩
       |.none=>.none
      |false=>some (⟨1,[],app r.subs aY,jn r s⟩:um)
     |false=>.none
    |.none=>.none)=some E:=e
  clear e
  generalize hz:findZ tM (g::aY) s=ax at e'
  cases ax with
  |some q=>
   have e':=aM e'
   subst e'
   have F:=Vx hz
   refine xA (aN.mp (b7 aeH q.1 F.mem)) λP p6=>?_
   refine xA (aN.mp P) λP p5=>?_
   refine xA (aN.mp P) λP p4=>?_
   refine xA (aN.mp P) λP p3=>?_
   have P:=aN.mp P
   refine⟨λd=>?_,p5,p6,hs.2.2.1,hs.2.2.2⟩
   refine(?_:Chain WS 60 gx dK.1 dK.2 (g::aY) (sT s d) (jr s) q.1.k 0 (.bad (mapA (λe=>app e q.2) q.1.R) (app q.1.lf q.2) _ _))
   rw [F.left,gM,pY,show(λe=>app e q.2)=λe=>e++q.2 from funext λe=>gM e q.2]
   exact Chain.last (aY:=q.2) (x:=sT s d) (y:=jr s) (acE F.mem d) (.inl (by rw [F.tl,F.tu];rfl)) (.inr rfl) (.inl (aN.mp (js (E:=1) (d:=d) p5 p6)).1) (.inr rfl) (pz P.1) (dw P.2)
    (λe he=>⟨pz (aN.mp (b7 p3 e he)).1,dw (aN.mp (b7 p3 e he)).2⟩) (dw p4)
  |none=>
   clear hz
   generalize hr:qO oY g s=ax at e'
   cases ax with
   |none=>exact aB e'
   |some r=>
    refine eN (LC hr) λhm aI h1 h2=>?_;subst aI
    clear hr
    have hp:=Oj hm
    have hn:=OC hp hs
    refine xA (aN.mp (hp:(allB bE r.subs&&eB r.subs.length 6&&nM r.lU&&nM r.lR)=true)) λgU p4=>?_
    refine xA (aN.mp gU) λgU p3=>?_
    refine xA (aN.mp gU) λp1 p2=>?_
    have p2:=dw p2
    have cS:∀d,Row WS 60 gx dK.1 dK.2 r.g (qk r.sT d) (qj r.sN) r.fl r.subs (qk r.lU d) (qj r.lR) r.p:=λd f aY wr=>O_ hm f aY wr d
    have lT:=λd=>NC (s:=s) (d:=d) p3
    refine xA (NB (s:=s) p4) λlN uN=>?_
    dsimp only at e'
    generalize h0:bA r.p 0=ax at e'
    cases ax with
    |false=>exact aB e'
    |true=>
     rw [dU h0] at cS
     dsimp only at e'
     generalize hf:r.fl=ax at e' cS
     cases ax with
     |true=>
      have e':(match ur n (app r.subs aY) (jn r s) with
       |some E=>some (⟨cX E.k,E.R,E.left,E.s⟩:um)
       |.none=>.none)=some E:=e'
      rw [gM] at e'
      generalize ha:ur n (r.subs++aY) (jn r s)=ax at e'
      cases ax with
      |none=>exact aB e'
      |some o'=>
       rw [<-aM e']
       refine xA (O hn ha) λch so=>?_
       refine⟨λd=>.turn (p:=0) (q:=0) (cS d) (BF h1) (BE h2) (lT d).1 lN (pz p1) p2 ?_ ?_ ?_,so⟩
       .rw [(lT d).2];exact js hn.1 hn.2.1
       .rw [uN];exact js hn.2.2.1 hn.2.2.2
       .rw [(lT d).2,uN];exact ch d
     |false=>
      obtain rfl:=aM e'
      refine⟨λd=>?_,hn⟩
      have:=Chain.fail (aY:=aY) (cS d) (BF h1) (BE h2) (lT d).1 lN (pz p1) p2
      rw [(lT d).2,uN,<-gM] at this
      exact this
theorem Chain.more(aY:G D)(h:Chain W n sc t bd B x y k p E):∀{R:G (G D)} {left:G D} {x' y':D},E=.bad R left x' y'->Chain W n sc t bd (B++aY) x y k p (.bad (R.map λe=>e++aY) (left++aY) x' y'):=by
 induction h with
 |done=>intro _ _ _ _ e;nomatch e
 |turn cS s1 s2 l1 l2 pl ls o1 o2 ch O=>
  intro R left x' y' e
  have:=O e
  rw [l_] at this
  exact .turn cS s1 s2 l1 l2 pl ls o1 o2 this
 |fail cS s1 s2 l1 l2 pl ls=>
  intro R left x' y' e
  injection e with e1 e2 e3 e4
  subst e1 e2 e3 e4
  rw [l_]
  exact .fail cS s1 s2 l1 l2 pl ls
 |@last gs Bx lf Lm _ _ _ _ _ _ _ cS s1 s2 l1 l2 pl ls pe le=>
  intro R left x' y' e
  injection e with e1 e2 e3 e4
  subst e1 e2 e3 e4
  have:=Chain.last (aY:=Bx++aY) cS s1 s2 l1 l2 pl ls pe le
  rw [l_,l_,zk]
  have e5:Lm.map ((λe=>e++aY)∘λe=>e++Bx)=Lm.map λe=>e++(Bx++aY):=QS λe _=>l_ e Bx aY
  rw [e5]
  exact this
noncomputable def o7(R:G (G D)):Prop:=R=[]\/(∃ag,R=[sub ai aC::ag])\/(∃ag,R=[sub aF aC::ag])\/∃ag R',R=[sub aF aC::ag,sub ai aC::R']
theorem o7.call(h:o7 R):mr false R LB 0=some .none:=
 h.elim (λe=>e▸Dz LB) λh=>h.elim (λh=>h.elim λag e=>e▸Tr LB ag) λh=>h.elim (λh=>h.elim λag e=>e▸Ts LB ag) λh=>h.elim λag h=>h.elim λR' e=>e▸Tt LB ag R'
theorem o7.more(aY:G D)(h:o7 R):o7 (R.map λe=>e++aY):=
 h.imp (cq (Cu (· ++aY))) (Or.imp (λ⟨ag,e⟩=>⟨ag++aY,cq (Cu (· ++aY)) e⟩) (Or.imp (λ⟨ag,e⟩=>⟨ag++aY,cq (Cu (· ++aY)) e⟩) λ⟨ag,R',e⟩=>⟨ag++aY,R'++aY,cq (Cu (· ++aY)) e⟩))
theorem o7.len:o7 R->R.length<=2
 |.inl e=>by rw [e];exact gD _
 |.inr (.inl ⟨ag,e⟩)=>by rw [e];exact ue 1
 |.inr (.inr (.inl ⟨ag,e⟩))=>by rw [e];exact ue 1
 |.inr (.inr (.inr ⟨ag,R',e⟩))=>by rw [e];exact fG 2
theorem Au(e:pN g B=true):∃ag,B=g::ag:=by
 cases B with
 |nil=>exact bz e
 |cons a B=>exact⟨B,by rw [<-iK (e:eW g a=true)]⟩
theorem Vc(h:Ln R=true):o7 R:=by
 cases R with
 |nil=>exact .inl rfl
 |cons e R=>
  cases R with
  |nil=>
   exact .inr ((k_.mp (h:(pN (sub ai aC) e||pN (sub aF aC) e)=true)).imp (λh=>(Au h).imp λag h=>cq (λe=>[e]) h) λh=>.inl ((Au h).imp λag h=>cq (λe=>[e]) h))
  |cons e' R=>
   cases R with
   |nil=>
    have h:=aN.mp (h:(pN (sub aF aC) e&&pN (sub ai aC) e')=true)
    exact .inr (.inr (.inr ((Au h.1).imp λag h1=>(Au h.2).imp λR' h2=>by rw [h1,h2])))
   |cons=>exact bz h
structure yZ(B:G D)(s:Sg)(kk:H)(R:G (G D))(left:G D)(s':Sg):Prop where
 ok:i4 s'
 ch:∀d,Chain WS 60 gx dK.1 dK.2 B (sT s d) (jr s) kk 0 (.bad R left (sT s' d) (jr s'))
 eo:o7 R
 pl:∀m∈left,bC m=true
 ll:left.length<=30
 pe:∀e∈R,(∀m∈e,bC m=true)/\e.length<=30
noncomputable def IY(B:G D)(s:Sg)(kk:H):Prop:=∃k R left s',k<=kk/\yZ B s k R left s'/\left.length<=20/\∀e∈R,e.length<=20
theorem Ny(hs:i4 s)(h:vA kb B s=true):IY B s kb:=by
 unfold vA at h
 generalize e:ur 50 B s=ax at h
 cases ax with
 |none=>nomatch h
 |some E=>
  refine xA (aN.mp h) λh h5=>?_
  refine xA (aN.mp h) λh h4=>?_
  refine xA (aN.mp h) λh h3=>?_
  refine xA (aN.mp h) λh1 h2=>?_
  refine xA (Sx hs e) λch so=>?_
  have z:∀e∈E.R,(∀m∈e,bC m=true)/\e.length<=20:=λe he=>by
   refine xA (aN.mp (b7 h5 e he)) λz1 z2=>?_
   exact⟨pz z1,dw z2⟩
  have l4:E.left.length<=20:=dw h4
  exact⟨E.k,E.R,E.left,E.s,dw h1,⟨so,ch,Vc h2,pz h3,by exact dQ (by assumption) (by decide),λe he=>⟨(z e he).1,by have:=(z e he).2;exact dQ (by assumption) (by decide)⟩⟩,l4,λe he=>(z e he).2⟩
theorem Got.bad(hr:∀m∈aY,bC m=true)(lr:aY.length<=10)(g:Got B s s2 k 0)(b:IY l' s2 kk):∃k' R left s',k'<=k+kk/\yZ (B++(l'++aY)) s k' R left s':=by
 refine gK b λk' R bB=>eK bB λleft s' hk b l1 l2=>?_
 refine⟨k+k',R.map λe=>e++aY,left++aY,s',by lia,b.ok,λd=>?_,b.eo.more aY,λm hm=>(dI.mp hm).elim (b.pl m) (hr m),by rw [fy];lia,λe he=>?_⟩
 .have:=(g.ch d).append rfl ((b.ch d).more aY rfl)
  rw [uh] at this
  exact this
 .refine ay (cF.mp he) λe0 h0 aE=>?_;subst aE
  have:=l2 e0 h0
  exact⟨λm hm=>(dI.mp hm).elim ((b.pe e0 h0).1 m) (hr m),by rw [fy];lia⟩
noncomputable def jc(k num:H)(l1 l2:G (H×ah)):G D:=l1.map (λwd=>qc k num wd.1 wd.2)++aF::l2.map λwd=>qc k num wd.1 wd.2
theorem EB(k num:H)(l1 l2:G (H×ah))(wd:H×ah):jE (jc k num l1 l2) ((bD (l1++wd::l2)).map eX)=i6 k num l2.reverse++([sub aF (eX wd.1)]++i6 k num l1.reverse):=by
 have e:=LS (jc k num l1 l2) ((bD (l1++wd::l2)).map eX) [] (by unfold jc bD;simp only [fy,cZ,iQ])
 rw [h_] at e
 rw [e]
 have e2:CB sub (jc k num l1 l2) ((bD (l1++wd::l2)).map eX)=i6 k num l1++(sub aF (eX wd.1)::i6 k num l2):=by
  rw [<-IP,<-IP]
  unfold jc bD
  rw [rN,rN,lj,lj,List.zipWith_append (by simp only [cZ])]
  rfl
 rw [e2,zm,rP,l_]
 unfold i6
 rw [Cy,Cy]
 rfl
theorem Hg{k num:H}(hk:k<4)(hn:num∈[1,2,3])(hw:∀x∈l1++wd::l2,x.1∈six):∀p∈jc k num l1 l2,p∈hH:=λp hp=>by
 have one:∀{B:G (H×ah)},(∀x∈B,x.1∈six)->∀p∈B.map (λwd=>qc k num wd.1 wd.2),p∈hH:=λhl p hp=>by
  refine ay (cF.mp hp) λx m aE=>?_;rw [<-aE]
  exact N3 hk hn (hl x m)
 refine dC (dI.mp hp) (λh=>?_) λh=>?_
 .exact one (λx m=>hw x (iR _ m)) p h
 .refine dC (bY.mp h) (λrf=>?_) λh=>?_
  .rw [rf];exact .tail _ (.tail _ (.tail _ (.tail _ (.head _))))
  .exact one (λx m=>hw x (fC _ (.tail _ m))) p h
theorem MI(h:i7 w=true):w∈[0,5]:=(k_.mp h).elim (λh=>dU h▸.head _) λh=>dU h▸.tail _ (.head _)
theorem Fg(h:fH w=true):w∈[1,2,4]:=(k_.mp h).elim (λh=>dU h▸.head _) λh=>(k_.mp h).elim (λh=>dU h▸.tail _ (.head _)) λh=>dU h▸.tail _ (.tail _ (.head _))
theorem LQ{k num w:H}(h:w≠3)(d:ah):iI k num w d=iI k num w false:=by
 match w,h with
 |0,_|1,_|2,_|4,_|5,_=>rfl
 |w+6,_=>rfl
theorem ae1{B:G (H×ah)}(hl:B.length<=2)(h:(B.any λwd=>i7 wd.1)=true)(h2:(B.any λwd=>fH wd.1)=true):∃a b,B=[a,b]/\((a.1∈[0,5]/\b.1∈[1,2,4])\/(a.1∈[1,2,4]/\b.1∈[0,5])):=by
 have no:∀w∈[1,2,4],i7 w=false:=by decide
 cases B with
 |nil=>exact bz h
 |cons a B=>
  rw [qy] at h h2
  cases B with
  |nil=>
   rw [QA,qr] at h h2
   exact bz ((no _ (Fg h2)).symm.trans h)
  |cons b B=>
   cases B with
   |nil=>
    rw [qy,QA,qr] at h h2
    refine⟨a,b,rfl,(k_.mp h2).elim (λh2=>.inr ?_) λh2=>.inl ?_⟩
    .have h2:=Fg h2
     rw [no _ h2,Cf] at h
     exact⟨h2,MI h⟩
    .have h2:=Fg h2
     rw [no _ h2,qr] at h
     exact⟨MI h,h2⟩
   |cons=>exact bP hl (Ro (zr (zr (ug _))))
theorem ne3(h:w∈[0,5]\/w∈[1,2,4]):w≠3:=by rintro rfl;exact bP h (by decide)
section
variable{c:a_}{w:dF}{J:aP}{K:b8}{mg mb:ar->aa aw}
theorem Nm(aV:Base c w K cz J mg mb)(h:ws∈dq)(hp:∀p∈ps,p∈hH)(hf:(ps.length,ws.length,t)∈fits)(hk:k'<60)
  (b:yZ (jE ps (ws.map eX)) (fE (rj u) .none) k' R left s'):kh c w J aH 180 (oneOf ps) (dk (cC u) (cD (c_ ws t))) .none:=
 ZF aV h hp hf (b.ch (gg ws)) (Ao hp (B9 h)) hk (js b.ok.1 b.ok.2.1) (js b.ok.2.2.1 b.ok.2.2.2) (by have:=b.ll;exact dQ (by assumption) (by decide)) b.pl (λe he=>⟨(b.pe e he).1,by have:=(b.pe e he).2;exact dQ (by assumption) (by decide)⟩) b.eo.len b.eo.call
theorem ae8:B4 u=o6 u:=by unfold B4 o6;rfl
theorem Nz{k u num:H}(hk:k<4)(hu:u<3)(hn:num∈[1,2,3])(hw:∀x∈l2,x.1∈six)(Yy:l2.length<=2)(hr:∀m∈aY,bC m=true)(lr:aY.length<=10)
  (h1:∀q∈jd k u,(bA k 3&&q.pl&&q.rm)=false->q.pl=(l2.any λwd=>i7 wd.1)->∀on∈jI,vA 14 [g] (fE q on)=true) (h2:k=3->∀a b:H×ah,l2=[a,b]->(a.1∈[0,5]/\b.1∈[1,2,4])\/(a.1∈[1,2,4]/\b.1∈[0,5])->vB u b.1 a.1 num g=true):
  ∃k' R left s',k'<60/\yZ (i6 k num l2.reverse++([g]++aY)) (fE (rj u) .none) k' R left s':=by
 refine dO (GY hk hu hn (B:=l2.reverse) (λwd m=>hw wd (qB.mp m)) (BS hk hu) (.inl rfl) (wY hu)) λq k2 p2 P g2=>?_
 rw [GL] at g2
 have uD:q.pl=l2.any λwd=>i7 wd.1:=by rw [P.pl,wy];rfl
 have pJ:q.rm=l2.any λwd=>fH wd.1:=by rw [P.rm,wy];rfl
 have yo:jK num l2 .none∈jI:=by
  unfold jK
  split
  .exact .tail _ (cF.mpr ⟨num,hn,rfl⟩)
  .exact .head _
 have lk:=P.kl
 rw [ez] at lk
 cases I:bA k 3&&q.pl&&q.rm with
 |false=>
  have p0:=P.p0 I
  subst p0
  refine gK (g2.bad hr lr (Ny g2.ok (h1 q P.mem I uD _ yo))) λk' R bB=>jv bB λleft s' h3 b=>?_
  exact⟨k',R,left,s',by lia,b⟩
 |true=>
  refine xA (aN.mp I) λI c3=>?_
  refine xA (aN.mp I) λc1 c2=>?_
  have k3:=dU c1
  subst k3
  refine jv (ae1 Yy (uD▸c2) (pJ▸c3)) λa b aE ab=>?_;subst aE
  have h4:=h2 rfl a b rfl ab
  have e:i6 3 num [a,b].reverse++([g]++aY)=[]++([iI 3 num b.1 false,iI 3 num a.1 false,g]++aY):=by
   refine(?_:iI 3 num b.1 b.2::iI 3 num a.1 a.2::(g::aY)=_)
   have na:a.1≠3:=ne3 (ab.elim (λz=>.inl z.1) λz=>.inr z.1)
   have nb:b.1≠3:=ne3 (ab.elim (λz=>.inr z.2) λz=>.inl z.2)
   rw [LQ na,LQ nb];rfl
  rw [e]
  unfold vB at h4
  have st:(⟨[],B4 u,[],[]⟩:Sg)=fE (rj u) .none:=by rw [ae8];rfl
  rw [st] at h4
  have g0:Got [] (fE (rj u) .none) (fE (rj u) .none) 0 0:=⟨wY hu,λd=>.done⟩
  refine gK (g0.bad hr lr (Ny (wY hu) h4)) λk' R bB=>jv bB λleft s' h3 b=>?_
  exact⟨k',R,left,s',by lia,b⟩
theorem r4(h:ws∈dq):ws.length<=3:=by
 have:allB (λws:G H=>eB ws.length 3) dq=true:=by decide+kernel
 exact dw (b7 this ws h)
theorem yb(hk:k<4):k∈[0,1,2,3]:=by rcases pX hk with rfl|rfl|rfl|rfl<;>decide
theorem Np(hu:u<3):u∈[0,1,2]:=by rcases qZ hu with rfl|rfl|rfl<;>decide
theorem LR{k num:H}(hk:k<4)(hn:num∈[1,2,3])(hw:∀x∈B,x.1∈six):∀z∈i6 k num B,bC z=true:=λz hz=>by
 have:=Ao (ps:=cY k num B 0) (ws:=(bD B).map eX) (vK hk hn hw) (λq hq=>by
  refine ay (cF.mp hq) λw Xz aE=>?_;rw [<-aE]
  refine ay (cF.mp Xz) λx m aE=>?_;rw [<-aE]
  exact cF.mpr ⟨_,hw x m,rfl⟩)
 rw [LU] at this
 refine this z (fC _ ?_)
 unfold i6 at hz⊢
 rw [Cy]
 exact qB.mpr hz
theorem ZJ(aV:Base c w K cz J mg mb){k u num:H}(hk:k<4)(hu:u<3)(hn:num∈[1,2,3])(h:bD (l1++wd::l2)∈dq)(h0:wd.1≠0)(hf:((jc k num l1 l2).length,(bD (l1++wd::l2)).length,t)∈fits):
  kh c w J aH 180 (oneOf (jc k num l1 l2)) (dk (cC u) (cD (c_ (bD (l1++wd::l2)) t))) .none:=by
 have hw:∀x∈l1++wd::l2,x.1∈six:=λx m=>lW h _ (cF.mpr ⟨x,m,rfl⟩)
 have len:(l1++wd::l2).length<=3:=by have:=r4 h;unfold bD at this;rw [cZ] at this;exact this
 rw [fy,iQ] at len
 have w5:wd.1∈[1,2,3,4,5]:=by
  have:=hw wd (fC _ (.head _))
  refine dC (bY.mp this) (λq=>?_) λq=>?_
  .exact bP q h0
  .exact q
 obtain⟨k',R,left,s',lC,b⟩:=Nz (g:=sub aF (eX wd.1)) (aY:=i6 k num l1.reverse) hk hu hn (l2:=l2) (λx m=>hw x (fC _ (.tail _ m))) (by lia) (LR hk hn λx m=>hw x (iR _ (qB.mp m))) (by unfold i6;rw [cZ,ez];lia) (λq hq _ _ on ho=>b7 (b7 (b7 (b7 (b7 aap k (yb hk)) u (Np hu)) q hq) on ho) _ w5) (λ_ a b _ ab=>by
   have T:=b7 aat u (Np hu)
   rcases ab with⟨ha,hb⟩|⟨ha,hb⟩
   .exact(aN.mp (b7 (b7 (b7 (b7 T a.1 ha) b.1 hb) num hn) wd.1 w5)).2
   .exact(aN.mp (b7 (b7 (b7 (b7 T b.1 hb) a.1 ha) num hn) wd.1 w5)).1)
 refine Nm (R:=R) (left:=left) (s':=s') aV h (Hg hk hn hw) hf lC ?_
 rw [EB]
 exact b
theorem ZK(aV:Base c w K cz J mg mb){k u num:H}(hk:k<4)(hu:u∈[1,2])(hn:num∈[1,2,3])(h:bD (l1++(0,d)::l2)∈dq)(h0:∀x∈l2,x.1≠0)(hf:((jc k num l1 l2).length,(bD (l1++(0,d)::l2)).length,t)∈fits):
  kh c w J aH 180 (oneOf (jc k num l1 l2)) (dk (cC u) (cD (c_ (bD (l1++(0,d)::l2)) t))) .none:=by
 have hw:∀x∈l1++(0,d)::l2,x.1∈six:=λx m=>lW h _ (cF.mpr ⟨x,m,rfl⟩)
 have Xu:u<3:=by revert u;decide
 have len:(l1++(0,d)::l2).length<=3:=by have:=r4 h;unfold bD at this;rw [cZ] at this;exact this
 rw [fy,iQ] at len
 have p5:∀x∈l2,x.1∈[0,5]->x.1=5:=λx m h=>by
  refine dC (bY.mp h) (λq=>?_) λq=>?_
  .exact bP q (h0 x m)
  .exact cA.mp q
 obtain⟨k',R,left,s',lC,b⟩:=Nz (g:=sub aF vT) (aY:=i6 k num l1.reverse) hk Xu hn (l2:=l2) (λx m=>hw x (fC _ (.tail _ m))) (by lia) (LR hk hn λx m=>hw x (iR _ (qB.mp m))) (by unfold i6;rw [cZ,ez];lia) (λq hq I _ on ho=>by
   have:=b7 (b7 (b7 aar k (yb hk)) u hu) q hq
   rw [I,Cf] at this
   exact b7 this on ho) (λ_ a b e ab=>by
   have T:=b7 aav u hu
   have ma:a∈l2:=by rw [e];exact .head _
   have mb:b∈l2:=by rw [e];exact .tail _ (.head _)
   rcases ab with⟨ha,hb⟩|⟨ha,hb⟩
   .rw [p5 a ma ha]
    exact(aN.mp (b7 (b7 T b.1 hb) num hn)).2
   .rw [p5 b mb hb]
    exact(aN.mp (b7 (b7 T a.1 ha) num hn)).1)
 refine Nm (R:=R) (left:=left) (s':=s') aV h (Hg hk hn hw) hf lC ?_
 rw [EB]
 exact b
theorem ve(hs:i4 s)(h:qY s g s'=true):∃kk,kk<=14/\Got [g] s s' kk 0:=by
 unfold qY at h
 generalize e:m8 16 [g] s=ax at h
 cases ax with
 |none=>nomatch h
 |some E=>
  refine xA (aN.mp h) λh h4=>?_
  refine xA (aN.mp h) λh h3=>?_
  refine xA (aN.mp h) λh1 h2=>?_
  refine xA (aN.mp (h4:(cT E.s.tl s'.tl&&cT E.s.tu s'.tu&&cT E.s.nl s'.nl&&cT E.s.nu s'.nu)=true)) λh4 z4=>?_
  refine xA (aN.mp h4) λh4 z3=>?_
  refine xA (aN.mp h4) λz1 z2=>?_
  have g:=Got.of hs e h1
  have R:E.s=s':=Hz (eu z1) (eu z2) (eu z3) (eu z4)
  rw [R,Jx.mp (dw h3)] at g
  exact⟨E.k,dw h2,g⟩
theorem FN(hk:k<4):qY ⟨[],[],[],[]⟩ (sub aF vT) (hW k 0)=true/\qY ⟨[hU k],[],[],[]⟩ (sub aF vT) (hW k 1)=true/\∀i∈[0,1,2],∀wd∈[(0,false),(3,false),(3,true),(5,false)],qY (hW k i) (iI k 1 wd.1 wd.2) (hW k (vC i wd.1))=true:=by
 have h:=b7 YD k (yb hk)
 refine xA (aN.mp h) λh h3=>?_
 refine xA (aN.mp h) λh1 h2=>?_
 exact⟨h1,h2,λi hi wd hd=>b7 (b7 h3 i hi) wd hd⟩
theorem YE{k num:H}(hk:k<4):(∀wd∈B,wd.1∈[0,3,5])->∀{i:H},i∈[0,1,2]->i4 (hW k i)->∃i' kk,i'∈[0,1,2]/\kk<=14*B.length/\(i≠0->i'≠0)/\(∀wd∈B,wd.1=0->i'≠0)/\Got (i6 k num B) (hW k i) (hW k i') kk 0:=by
 induction B with
 |nil=>exact λ_ i hi hs=>⟨i,0,hi,fG _,λh=>h,(λ_ m=>nomatch m),hs,λd=>.done⟩
 |cons wd B O=>
  obtain⟨w,d⟩:=wd
  intro hl i hi hs
  have hw:w∈[0,3,5]:=hl _ (.head _)
  have st:∃kk,kk<=14/\Got [iI k num w d] (hW k i) (hW k (vC i w)) kk 0:=by
   have T:=(FN hk).2.2 i hi
   simp only [bY,eP,gH] at hw
   rcases hw with rfl|rfl|rfl
   .exact ve hs (T (0,false) (by decide))
   .cases d
    .exact ve hs (T (3,false) (by decide))
    .exact ve hs (T (3,true) (by decide))
   .exact ve hs (T (5,false) (by decide))
  refine ay st λk1 l1 g1=>?_
  have xG:=(by decide:∀w∈[0,3,5],∀i∈[0,1,2],vC i w∈[0,1,2]/\(i≠0->vC i w≠0)/\(w=0->vC i w≠0)) w hw i hi
  refine eK (O (λwd m=>hl wd (.tail _ m)) xG.1 g1.ok) λi' k2 h1 h2 h3 bB=>xA bB λh4 g2=>?_
  exact⟨i',k1+k2,h1,mV k2 k1▸CE h2 l1,λh=>h3 (xG.2.1 h),λwd m e=>(bY.mp m).elim (λq=>h3 (xG.2.2 (by rw [q] at e;exact e))) λm=>h4 wd m e,g1.app g2⟩
theorem aer(hk:k<4)(hi:i∈[1,2]):(⟨(hW k i).tl,[],.none,false⟩:rF)∈HY:=mc.mpr ⟨k,yb hk,cF.mpr ⟨i,hi,rfl⟩⟩
theorem T7(h:ws∈dq)(n0:2<=(ws.filter λw=>bA w 0).length)(nr:ws.any fH=false):gg ws=true:=by
 have:allB (λws:G H=>dB (ws.filter λw=>bA w 0).length 2||ws.any fH||gg ws) dq=true:=by decide+kernel
 have:=b7 this ws h
 rw [nr,qr,blt_false n0,Cf] at this
 exact this
theorem ZH(aV:Base c w K cz J mg mb)(h:ws∈dq)(hp:∀p∈ps,p∈hH)(hf:(ps.length,ws.length,t)∈fits)(hd:gg ws=true)(hk:k<4)(hi:i∈[1,2])(ago:kk<60)
  (g:Got (jE ps (ws.map eX)) (fE (rj u) .none) (hW k i) kk 0):kh c w J aH 180 (oneOf ps) (dk (cC u) (cD (c_ ws t))) .none:=by
 have e0:(hW k i).tu=[]/\(hW k i).nl=[]/\(hW k i).nu=[]:=by
  simp only [bY,eP,gH] at hi
  rcases hi with rfl|rfl<;>exact⟨rfl,rfl,rfl⟩
 have ch:=g.ch true
 have ok:=g.ok
 unfold sT jr at ch
 rw [e0.1,e0.2.1,e0.2.2] at ch
 rw [<-hd] at ch
 have L:=Ep aV (t:=t) hp (B9 h) (by rw [cZ];exact hf) (DG aV ch (Ao hp (B9 h)))
 have gh:cR (side 1 (hW k i).tl [] (gg ws))=true:=js ok.1 rfl
 have gi:cR (side 2 [] [] false)=true:=js rfl rfl
 have cS:∀f wr,v_ WE 60 gx tA (stH f [] wr (side 1 (hW k i).tl [] (gg ws)) (.tok 2))=some ⟨false,.fuel f,[],side 1 (hW k i).tl [] (gg ws),.tok 2,iA wr⟩:=λf wr=>by
  have:=fU (aes f wr) _ (aer hk hi)
  unfold vX uI at this
  rw [hd]
  exact this
 exact Ge aV h hp (Ends.MY L gh gi ⟨_,_,rfl⟩ cS) (by assumption) (gD _) gh gi (.inr ⟨rfl,rfl,rfl⟩) (gD _) (λm h=>nomatch h) (λm h=>nomatch h) (gD _) (Dz []) (Lc _ _)
theorem adW(hk:k<4)(hq:q∈jd k 0)(hr:q.rm=false):q=⟨false,false,[],[]⟩\/q=⟨true,false,[hU k],[]⟩:=by
 have lC:k∈[0,1,2,3]:=by rcases pX hk with rfl|rfl|rfl|rfl<;>decide
 have h:=b7 (b7 abk k lC) q hq
 obtain⟨pl,rm,lo,up⟩:=q
 obtain rfl:rm=false:=hr
 refine xA (aN.mp (h:(J9 pl (cT lo [hU k]) (cT lo [])&&cT up [])=true)) λh1 h2=>?_
 cases(eu h2:up=[])
 cases pl with
 |false=>exact .inl (cq (ki.mk false false · []) (eu (h1:cT lo []=true)))
 |true=>exact .inr (cq (ki.mk true false · []) (eu (h1:cT lo [hU k]=true)))
theorem ZL(aV:Base c w K cz J mg mb){k num:H}(hk:k<4)(hn:num∈[1,2,3])(h:bD (l1++(0,d)::l2)∈dq)(h1:∃x∈l1,x.1=0)(hr:(bD (l1++(0,d)::l2)).any fH=false)(hf:((jc k num l1 l2).length,(bD (l1++(0,d)::l2)).length,t)∈fits):
  kh c w J aH 180 (oneOf (jc k num l1 l2)) (dk (cC 0) (cD (c_ (bD (l1++(0,d)::l2)) t))) .none:=by
 have hw:∀x∈l1++(0,d)::l2,x.1∈six:=λx m=>lW h _ (cF.mpr ⟨x,m,rfl⟩)
 have EF:∀x∈l1++(0,d)::l2,x.1∈[0,3,5]:=λx m=>by
  have n:fH x.1=false:=by
   cases I:fH x.1 with
   |false=>rfl
   |true=>rw [zc] at hr;exact bP I (hr _ (cF.mpr ⟨x,m,rfl⟩))
  have:∀w∈six,fH w=false->w∈[0,3,5]:=by decide
  exact this _ (hw x m) n
 have len:(l1++(0,d)::l2).length<=3:=by have:=r4 h;unfold bD at this;rw [cZ] at this;exact this
 rw [fy,iQ] at len
 have dg:gg (bD (l1++(0,d)::l2))=true:=by
  refine T7 h ?_ hr
  refine ay h1 λx m e=>?_
  refine gK (List.append_of_mem m) λa b aE=>?_;rw [aE]
  unfold bD
  rw [rN,rN,lj,lj,e,QH,QH,QJ (by rfl),QJ (by rfl)]
  simp only [fy,iQ]
  lia
 refine dO (GY hk (u:=0) (by decide) hn (B:=l2.reverse) (λwd m=>hw wd (fC _ (.tail _ (qB.mp m)))) (BS hk (by decide)) (.inl rfl) (wY (by decide))) λq k2 p2 P g2=>?_
 rw [GL] at g2
 have pJ:q.rm=false:=by
  rw [P.rm,wy]
  cases I:l2.any λwd=>fH wd.1 with
  |false=>rfl
  |true=>
   refine ay (zd.mp I) λx m I=>?_
   have n:=EF x (fC _ (.tail _ m))
   have:∀w∈[0,3,5],fH w=false:=by decide
   rw [this _ n] at I;nomatch I
 have U3:jK num l2 .none=.none:=by
  unfold jK
  cases I:l2.any λwd=>bA wd.1 2 with
  |false=>rfl
  |true=>
   refine ay (zd.mp I) λx m I=>?_
   have n:=EF x (fC _ (.tail _ m))
   have:∀w∈[0,3,5],bA w 2=false:=by decide
   rw [this _ n] at I;nomatch I
 have p0:=P.p0 (by rw [pJ,Qe])
 subst p0
 rw [U3] at g2
 have lk:=P.kl
 rw [ez] at lk
 have mid:∃i kk,i∈[0,1,2]/\kk<=14/\Got [sub aF vT] (fE q .none) (hW k i) kk 0:=by
  rcases adW hk P.mem pJ with rfl|rfl
  .refine ay (ve g2.ok (FN hk).1) λkk B g=>?_
   exact⟨0,kk,by decide,B,g⟩
  .refine ay (ve g2.ok (FN hk).2.1) λkk B g=>?_
   exact⟨1,kk,by decide,B,g⟩
 refine eO mid λi k3 hi l3 g3=>?_
 refine eK (YE hk (num:=num) (B:=l1.reverse) (λwd m=>EF wd (iR _ (qB.mp m))) hi g3.ok) λi' k4 ES l4 _ bB=>xA bB λne g4=>?_
 rw [ez] at l4
 have n0:i'∈[1,2]:=by
  refine ay h1 λx m e=>?_
  have:=ne x (qB.mpr m) e
  refine dC (bY.mp ES) (λq=>?_) λq=>?_
  .exact bP q this
  .exact q
 refine ZH aV h (Hg hk hn hw) hf dg hk n0 (kk:=k2+(k3+k4)) (by lia) ?_
 rw [EB]
 exact g2.app (g3.app g4)
end
noncomputable def ij:G en:=match cz.fn 659 with
 |some F=>F.body
 |.none=>[]
noncomputable def jm:G (ar×dc):=match cz.fn 659 with
 |some F=>F.sc
 |.none=>[]
noncomputable def wV:cU ah:=⟨false,λn k=>@nZ (λ_=>ah) true (λi a=>k i&&a) n⟩
noncomputable def fs(ws:G H):G D:=ws.map λi=>D.int (.ofNat i)
noncomputable def gJ(ws:G H):D:=.aD (.list 63) (fs ws)
noncomputable def hK(ac7 dj kinds afo ae_ ht tail ik To kind aaM d_ abA:aa D):G (aa D):=[ac7,dj,kinds,afo,ae_,ht,tail,ik,To,kind,aaM,d_,abA,.none,.none,.none,.none,.none,.none,.none,.none,.none,.none,.none,.none,.none,.none]
noncomputable def sO{α:Type}(I:ah)(E:aa α):aa α:=@bN (λ_=>aa α) .none E I
noncomputable def GN(f:D->ah)(B:G D):ah:=match B with
 |[]=>false
 |a::B=>match B with
  |[]=>f a
  |_::_=>false
noncomputable def GU(a:H)(args:G D)(o:MH):aa (H×D×MH):=match bA a 588 with
 |true=>sO (GN (gO 5) args&&cJ ((o.t.ins o.n .dj).get o.n)) (some (100,.ref o.n,⟨o.t.ins o.n .dj,cX o.n⟩))
 |false=>match bA a 567 with
  |true=>sO (cT args []) (some (300,.tok 0,o))
  |false=>sO (bA a 649&&GN pU args) (some (250,.bool true,o))
noncomputable def WA:bQ:=gp cz GU (λ_=>.none) (λ_ _=>.none) 595
noncomputable def Fq(E:cL):ah:=match E with
 |.dj=>true
 |_=>false
noncomputable def xR(o:MH)(v:aa D):ah:=mG (λi=>bA i 0&&mG Fq (o.t.get i)) (Hm v)
noncomputable def anyB{α:Type}(f:α->ah)(B:G α):ah:=!(allB (λq=>!(f q)) B)
noncomputable def Ai(o:MH)(v:aa D):aa (G D):=eQ (Hm v) λi=>eQ (jj o i) λp=>bO (eB 1 i) p.2
noncomputable def J0:G (G H):=all1++(all2++(bV 0++(bV 1++(bV 2++(bV 3++(bV 4++bV 5))))))
noncomputable def FY(f:eh)(fr:Fm)(o:MH):ah:=u7 f&&xR o (dE fr.vars 1)&&pU (gw (dE fr.vars 2))&&mG (λr=>anyB (λws=>cT (fs ws).reverse r) J0) (Ai o (dE fr.vars 3))
noncomputable def abr:ah:=iy (run wV WA 338) ⟨jm,.none⟩ (ij.take 3) ⟨hK (some (.tok 5)) .none .none .none .none .none .none .none .none .none .none .none .none,[]⟩ ⟨.nil,0⟩ FY
noncomputable def yQ(u:H):D:=match u with
 |0=>kO
 |1=>ak
 |_=>aK
noncomputable def BZ(t:ah):H:=match t with
 |true=>25
 |false=>24
noncomputable def JE:G jP:=[0,1,2].flatMap λu=>[false,true].map λt=>⟨630,[.tok 41,yQ u,iL t],dk (yQ u) (cD (.tok (BZ t)))⟩
noncomputable def R_:bQ:=gp cz (kP 60 JE []) (λ_=>.none) (λ_ _=>.none) 595
noncomputable def pR(B:G D)(v:D):aa H:=@b9 D (λ_=>H->aa H) (λ_=>.none) (λa _ f i=>@bN (λ_=>aa H) (f (cX i)) (some i) (eW a v)) B 0
noncomputable def My(v:D):aa ah:=match v with
 |.bool b=>some b
 |_=>.none
noncomputable def Pp:G D:=[kO,ak,aK]
noncomputable def Nk:G D:=[.int 0,.int 1,.int 2]
noncomputable def MP:G D:=[aC,ai,ak,af]
noncomputable def Nt:G D:=[.int 1,.int 2,.int 3]
noncomputable def F0(f:eh)(fr:Fm)(o:MH):ah:=u7 f&&xR o (dE fr.vars 1)&&pU (gw (dE fr.vars 2))&&gO 41 (gw (dE fr.vars 3))&&mG (λt=>eW (iL t) (nI (dE fr.vars 6))&&
  mG (λu=>eW (dk (yQ u) (cD (.tok (BZ t)))) (nI (dE fr.vars 11))) (pR Pp (nI (dE fr.vars 4)))&&mG (λm=>t||bA m 0) (pR Nk (nI (dE fr.vars 7)))) (My (nI (dE fr.vars 5)))&&cJ (pR MP (nI (dE fr.vars 9)))&&cJ (pR Nt (nI (dE fr.vars 10)))
noncomputable def abu:ah:=iy (run wV R_ 120) ⟨jm,.none⟩ ((ij.drop 3).take 7) ⟨hK .none (some (.ref 0)) (some (.tok 0)) (some (.tok 41)) .none .none .none .none .none .none .none .none .none,[]⟩ (fA [.dj]) F0
noncomputable def zY:G jP:=[⟨623,[.tok 31],.tok 30⟩]
noncomputable def WC:bQ:=gp cz (kP 20 zY []) (λ_=>.none) (λ_ _=>.none) 595
noncomputable def formOf(w:H)(d:ah):D:=match w with
 |0=>.tok 30
 |1=>arr (.tok 31) (num 1)
 |2=>arr (.tok 31) (.tup [sN,.tok 32])
 |3=>match d with
  |true=>ai
  |false=>aC
 |4=>gz (.tok 31)
 |_=>gP (.tok 30) aC
noncomputable def Bh(tl:G D)(ws:G H):G D->ah:=@b9 H (λ_=>G D->ah) (λB=>cT tl B) (λw _ f B=>match B with
 |[]=>false
 |x::B=>(eW (formOf w false) x||eW (formOf w true) x)&&f B) ws
noncomputable def Fo(b:H)(f:G D->ah)(v:D):ah:=match v with
 |.aD k B=>match k with
  |.list I=>bA I b&&f B
  |_=>false
 |_=>false
noncomputable def Ft(ws:G H)(v:D):ah:=Fo 63 (cT (fs ws)) v
noncomputable def F1(ws:G H)(m:H)(f:eh)(fr:Fm)(o:MH):ah:=u7 f&&xR o (dE fr.vars 1)&&pU (gw (dE fr.vars 2))&&gO 27 (gw (dE fr.vars 4))&&gO 28 (gw (dE fr.vars 5))&&gO 31 (gw (dE fr.vars 9))&&gO 32 (gw (dE fr.vars 10))&&gO 40 (gw (dE fr.vars 11))&&Ft ws (gw (dE fr.vars 3))&&
  mG (λr=>Bh (dh m j0) ws (rv r)) (Ai o (dE fr.vars 12))
noncomputable def fu(m:H)(ws:G H):ah:=iy (run wV WC 70) ⟨jm,.none⟩ ((ij.drop 10).take 1) ⟨hK .none (some (.ref 0)) (some (.tok 0)) (some (gJ ws)) (some (.tok 27)) (some (.tok 28)) .none (some (.int (.ofNat m))) .none (some (.tok 31)) (some (.tok 32)) (some (.tok 40)) .none,[]⟩ (fA [.dj]) (F1 ws m)
noncomputable def oS(ws:G H):aa D:=(run ip (gp cz (λ_ _ _=>.none) (λ_=>.none) (λ_ _=>.none) 0) 60).call (.fn 630) [gJ ws,.tok 22,.tok 23] ⟨.nil,0⟩ λm _=>some m
noncomputable def oT(ws:G H):aa D:=some (dk (.tok 22) (cD (.tup [du,.tup (ws.map rD),.tok 23])))
noncomputable def F4(v:D)(o:MH):aa D:=match v with
 |.none=>some .none
 |.ref i=>eQ (vG o i) λR=>bO (allB qX R) (.aD (.dict (hJ R)) (mapA (λq=>q.2) R))
 |_=>.none
noncomputable def ow(ws:G H):aa D:=(run ip (gp cz (kP 20 zY []) (λ_=>.none) (λ_ _=>.none) 0) 60).call (.fn 642) [gJ ws,.tok 31,.tok 32] ⟨.nil,0⟩ F4
noncomputable def vZ(ws:G H):aa D:=match ws.any fH with
 |true=>some (.tok 31)
 |false=>match ws.any MG with
  |true=>some (.tok 30)
  |false=>.none
where MG (w:H):ah:=bA w 0||bA w 5
noncomputable def oz(ws:G H):aa D:=some (match vZ ws with
 |some k=>match ws.any λw=>bA w 2 with
  |true=>.aD (.dict [mK,nP]) [k,.tup [sN,.tok 32]]
  |false=>.aD (.dict [mK]) [k]
 |.none=>match ws.any λw=>bA w 2 with
  |true=>.aD (.dict [nP]) [.tup [sN,.tok 32]]
  |false=>.aD (.dict []) [])
noncomputable def toks(n:H):G D:=(fZ n).map λi=>.tok (50+i)
noncomputable def setAt(B:G D)(i:H)(v:D):G D:=B.take i++v::B.drop (cX i)
noncomputable def aaN(ws:G H):G H:=(fZ ws.length).filter λi=>!(bA (ws.getD i 0) 0)
noncomputable def zs(ws:G H):G H:=(fZ ws.length).filter λi=>bA (ws.getD i 0) 0
noncomputable def A1(ub:ah)(ws:G H):G H:=match (zs ws).reverse with
 |[]=>[]
 |i::r=>match ub||(match r with
  |[]=>false
  |_::_=>!(ws.any fH)) with
  |true=>[i]
  |false=>[]
noncomputable def ones(ub t:ah)(ws:G H):G (G D):=(match t with
 |true=>[]
 |false=>[toks ws.length++[j0]])++((toks ws.length).dropLast::(aaN ws++A1 ub ws).map λi=>setAt (toks ws.length) i aF)
noncomputable def PW(ub t:ah)(ws:G H):G jP:=(ones ub t ws).map λps=>⟨382,[.tok 0,.tup [du,.tup ps,.none],.tok 40],.none⟩
noncomputable def U9(a b:D):aa ah:=match gO 27 a&&eW b kO with
 |true=>some false
 |false=>.none
noncomputable def Nd(n:H)(v:D)(o:MH):ah:=eW v (.bool true)&&mG Fq (o.t.get 0)&&mG (λp=>cT (toks n).reverse p.2) (jj o 1)
noncomputable def Io(I:H):ah:=bA I 1
noncomputable def PC(I:H):D:=match I with
 |0=>kO
 |_=>.tok 27
noncomputable def Ec(I:H):D->D->aa ah:=match I with
 |1=>U9
 |_=>λ_ _=>.none
noncomputable def WW(I:H)(t:ah)(ws:G H):bQ:=gp cz (kP 180 (PW (Io I) t ws) []) (λ_=>.none) (Ec I) 595
noncomputable def yW(I:H)(t:ah)(ws:G H):ah:=(run wV (WW I t ws) 230).call (.fn 654) [.ref 0,.tok 0,gJ ws,.ref 1,PC I,.bool t,.tok 40] (fA [.dj,.list 63 (toks ws.length).reverse]) (Nd ws.length)
noncomputable def vD(ws:G H):ah:=!(ws.any λw=>bA w 0)
noncomputable def gA(t:ah)(ws:G H):ah:=match vD ws with
 |true=>yW 2 t ws
 |false=>yW 0 t ws&&yW 1 t ws
noncomputable def newD(R:G (D×D))(lv:H)(o:MH):aa (H×D×MH):=bO (cJ ((o.t.ins o.n (.dict R)).get o.n)) (lv,.ref o.n,⟨o.t.ins o.n (.dict R),cX o.n⟩)
noncomputable def OE(n:H)(o:MH)(v:D):ah:=mG (λr=>cT (toks n).reverse r) (Ai o (some v))
noncomputable def MB(o:MH)(v:D):ah:=xR o (some v)
noncomputable def tQ(n:H):G D:=(fZ n).map λi=>.tok (60+i)
noncomputable def Fs(n:H)(v:D):ah:=Fo 63 (cT (tQ n)) v
noncomputable def three(f:D->D->D->ah)(B:G D):ah:=match B with
 |[x,y,z]=>f x y z
 |_=>false
noncomputable def BJ(f:D->D->D->D->D->D->D->ah)(B:G D):ah:=match B with
 |[x1,x2,x3,x4,x5,x6,x7]=>f x1 x2 x3 x4 x5 x6 x7
 |_=>false
noncomputable def GV(n m:H)(R:G (D×D))(a:H)(args:G D)(o:MH):aa (H×D×MH):=match bA a 382 with
 |true=>sO (cT [.tok 0,.tup [du,.tup (toks (n+m)),.none],.tok 40] args) (newD R 180 o)
 |false=>match bA a 642 with
  |true=>sO (three (λw k i=>Fs n w&&gO 31 k&&gO 32 i) args) (newD R 60 o)
  |false=>sO (bA a 654&&BJ (λj z w p u t s=>MB o j&&pU z&&Fs n w&&OE n o p&&gO 27 u&&gO 28 t&&gO 40 s) args) (some (230,.bool true,o))
noncomputable def WD(n m:H)(R:G (D×D)):bQ:=gp cz (GV n m R) (λ_=>.none) (λ_ _=>.none) 0
noncomputable def Nb(f:eh)(fr:Fm)(o:MH):aa D:=match f with
 |.next=>.none
 |.ret v=>some v
noncomputable def GW(n m:H)(R:G (D×D)):aa D:=iy (run ip (WD n m R) 300) ⟨jm,.none⟩ (ij.drop 11) ⟨hK .none (some (.ref 0)) (some (.tok 0)) (some (.aD (.list 63) (tQ n))) (some (.tok 27)) (some (.tok 28)) .none .none .none (some (.tok 31)) (some (.tok 32)) (some (.tok 40)) (some (.aD (.list 200) (toks (n+m)))),[]⟩ (fA [.dj]) Nb
noncomputable def ND:G (H×H):=[(1,0),(2,0),(3,0),(1,1),(1,2),(2,1),(2,2),(3,1),(3,2)]
noncomputable def su(t:aa D)(E:aa H):G (D×D):=(match t with
 |some k=>[(nQ,k)]
 |.none=>[])++match E with
 |some i=>[(lS,num i)]
 |.none=>[]
noncomputable def rA:G (aa D):=[.none,some aC,some ai,some ak,some af,some bF]
noncomputable def abz:ah:=allB (λnm=>allB (λt=>allB (λE=>match GW nm.1 nm.2 (su t E) with
 |some v=>eW v (.bool true)
 |.none=>false) jI) rA) ND
theorem abt:abr=true:=by kernel_rfl
theorem abv:abu=true:=by kernel_rfl
theorem aby:abz=true:=by kernel_rfl
theorem adh:all1.map oS=all1.map oT:=by kernel_rfl
theorem Up:all1.map ow=all1.map oz:=by kernel_rfl
theorem adi:all2.map oS=all2.map oT:=by kernel_rfl
theorem Uq:all2.map ow=all2.map oz:=by kernel_rfl
theorem adj:(bV 0).map oS=(bV 0).map oT:=by kernel_rfl
theorem Ur:(bV 0).map ow=(bV 0).map oz:=by kernel_rfl
theorem adk:(bV 1).map oS=(bV 1).map oT:=by kernel_rfl
theorem Us:(bV 1).map ow=(bV 1).map oz:=by kernel_rfl
theorem adl:(bV 2).map oS=(bV 2).map oT:=by kernel_rfl
theorem Ut:(bV 2).map ow=(bV 2).map oz:=by kernel_rfl
theorem adm:(bV 3).map oS=(bV 3).map oT:=by kernel_rfl
theorem Uu:(bV 3).map ow=(bV 3).map oz:=by kernel_rfl
theorem adn:(bV 4).map oS=(bV 4).map oT:=by kernel_rfl
theorem Uv:(bV 4).map ow=(bV 4).map oz:=by kernel_rfl
theorem ado:(bV 5).map oS=(bV 5).map oT:=by kernel_rfl
theorem Uw:(bV 5).map ow=(bV 5).map oz:=by kernel_rfl
theorem TS:[0,1,2,3].map (λk=>jW WS 20 ⟨623,[fR k],hU k⟩)=[0,1,2,3].map (λk=>jX ⟨623,[fR k],hU k⟩):=by kernel_rfl
theorem VF:jW WS 250 ⟨649,[.tok 0],.bool true⟩=jX ⟨649,[.tok 0],.bool true⟩:=by kernel_rfl
theorem abC:allB (fu 0) all1=true:=by kernel_rfl
theorem abD:allB (fu 0) all2=true:=by kernel_rfl
theorem abE:allB (fu 0) (bV 0)=true:=by kernel_rfl
theorem abF:allB (fu 0) (bV 1)=true:=by kernel_rfl
theorem abG:allB (fu 0) (bV 2)=true:=by kernel_rfl
theorem abH:allB (fu 0) (bV 3)=true:=by kernel_rfl
theorem abI:allB (fu 0) (bV 4)=true:=by kernel_rfl
theorem abJ:allB (fu 0) (bV 5)=true:=by kernel_rfl
theorem abK:allB (fu 1) all1=true:=by kernel_rfl
theorem abL:allB (fu 1) all2=true:=by kernel_rfl
theorem abM:allB (fu 1) (bV 0)=true:=by kernel_rfl
theorem abN:allB (fu 1) (bV 1)=true:=by kernel_rfl
theorem abO:allB (fu 1) (bV 2)=true:=by kernel_rfl
theorem abP:allB (fu 1) (bV 3)=true:=by kernel_rfl
theorem abQ:allB (fu 1) (bV 4)=true:=by kernel_rfl
theorem abR:allB (fu 1) (bV 5)=true:=by kernel_rfl
theorem abS:allB (fu 2) all1=true:=by kernel_rfl
theorem abT:allB (fu 2) all2=true:=by kernel_rfl
theorem abU:allB (fu 2) (bV 0)=true:=by kernel_rfl
theorem abV:allB (fu 2) (bV 1)=true:=by kernel_rfl
theorem abW:allB (fu 2) (bV 2)=true:=by kernel_rfl
theorem abX:allB (fu 2) (bV 3)=true:=by kernel_rfl
theorem abY:allB (fu 2) (bV 4)=true:=by kernel_rfl
theorem abZ:allB (fu 2) (bV 5)=true:=by kernel_rfl
theorem afE:allB (gA false) all1=true:=by kernel_rfl
theorem afF:allB (gA false) all2=true:=by kernel_rfl
theorem afG:allB (gA false) (bV 0)=true:=by kernel_rfl
theorem afH:allB (gA false) (bV 1)=true:=by kernel_rfl
theorem afI:allB (gA false) (bV 2)=true:=by kernel_rfl
theorem afJ:allB (gA false) (bV 3)=true:=by kernel_rfl
theorem afK:allB (gA false) (bV 4)=true:=by kernel_rfl
theorem afL:allB (gA false) (bV 5)=true:=by kernel_rfl
theorem afP:allB (gA true) all1=true:=by kernel_rfl
theorem afQ:allB (gA true) all2=true:=by kernel_rfl
theorem afR:allB (gA true) (bV 0)=true:=by kernel_rfl
theorem afS:allB (gA true) (bV 1)=true:=by kernel_rfl
theorem afT:allB (gA true) (bV 2)=true:=by kernel_rfl
theorem afU:allB (gA true) (bV 3)=true:=by kernel_rfl
theorem afV:allB (gA true) (bV 4)=true:=by kernel_rfl
theorem afW:allB (gA true) (bV 5)=true:=by kernel_rfl
section
set_option tactic.hygienic true
noncomputable def IS(P:H->D->Prop)(B:G (aa D)):H->Prop:=@b9 (aa D) (λ_=>H->Prop) (λ_=>jz) (λa _ O k=>(∀m,a=some m->P k m)/\O (k+1)) B
theorem Sl:∀{k:H},IS P B k->∀(i:H) (m:D),B[i]?=some (some m)->P (k+i) m:=by
 induction B with
 |nil=>exact λ_ _ _ e=>aB e
 |cons a B O=>
  intro k h i m e
  cases i with
  |zero=>exact h.1 m (aM e)
  |succ i=>exact Rv k i▸O h.2 i m e
theorem sZ{P:H->D->Prop}(h0:∀m,a0=some m->P 0 m)(h1:∀m,a1=some m->P 1 m)(h2:∀m,a2=some m->P 2 m)(h3:∀m,a3=some m->P 3 m)(h4:∀m,a4=some m->P 4 m)(h5:∀m,a5=some m->P 5 m)(h6:∀m,a6=some m->P 6 m)(h7:∀m,a7=some m->P 7 m)(h8:∀m,a8=some m->P 8 m)(h9:∀m,a9=some m->P 9 m)(EG:∀m,JU=some m->P 10 m)(Wg:∀m,JV=some m->P 11 m)(Wh:∀m,JW=some m->P 12 m):
  ∀(i:H) (m:D),(hK a0 a1 a2 a3 a4 a5 a6 a7 a8 a9 JU JV JW)[i]?=some (some m)->P i m:=by
 have no:∀{k:H},∀m,none=some m->P k m:=λ_ e=>aB e
 intro i m e
 have:IS P (hK a0 a1 a2 a3 a4 a5 a6 a7 a8 a9 JU JV JW) 0:=⟨h0,h1,h2,h3,h4,h5,h6,h7,h8,h9,EG,Wg,Wh,no,no,no,no,no,no,no,no,no,no,no,no,no,no,trivial⟩
 exact uh i▸Sl this i m e
noncomputable def bJ(i:H):aa H:=if i=0 then some 0 else none
section
variable{c:a_}{w:dF}{F C:G aA}{J h:aP}{o:MH}{aQ aJ:H->aa D}{sc:G (ar×dc)}{vars rC:G (aa D)}{X:cK}{aj:aA}
theorem vg(S:St c (wb c w aQ) J F C o h)(az:dm c (wb c w aQ) F C h sc vars X)(e0:C[0]?=some aj)(j:o.t.get 0=some .dj)(hv:∀(i:H) (m2:D),rC[i]?=some (some m2)->∃m,vars[i]?=some (some m)/\Cv aQ aJ o bJ (λi=>1<=i) m m2):
  St c (wb c w aJ) J F [aj] (fA [.dj]) h/\dm c (wb c w aJ) F [aj] h sc rC X:=by
 have sub:∀a∈[aj],a∈C:=λa ha=>by rw [cA.mp ha];exact dy e0
 have ji:∀i j a,bJ i=some j->C[i]?=some a->[aj][j]?=some a:=λi j a eb ei=>by
  unfold bJ at eb
  split at eb
  .rename_i z;have:=aM eb;rw [<-this];rw [z,e0] at ei;exact ei
  .nomatch eb
 have hs:∀a E,h.get? a=some E->cM F C a->cM F [aj] a:=λa E _ sf=>⟨sf.1,λq=>sf.2 (sub a q)⟩
 have kH:∀i a,1<=i->C[i]?=some a->cM F [aj] a:=λi a hi e=>⟨λq=>(S.cI a q).2.1 (dy e),λq=>by
  rw [cA.mp q] at e
  have:=qe S.apart e e0
  lia⟩
 refine⟨S.mJ (β:=bJ) (FZ:=λi=>1<=i) rfl (by simp) (λa ha=>?_) hs kH ji λj' a ej=>?_,az.weak az.own λi m2 e=>?_⟩
 .refine cf (S.cI a ha) λq1 q2 q3=>?_
  exact⟨q1,λz=>q2 (sub a z),q3⟩
 .match j',ej with
  |0,ej=>cases ej;exact⟨0,_,_,e0,j,rfl,.dj⟩
 .refine ay (hv i m2 e) λm e1 I=>?_
  exact⟨m,e1,λv x=>I.ok S ji hs kH x⟩
theorem Oh(e:Hm E=some i):E=some (.ref i):=by
 cases E with
 |none=>exact aB e
 |some v=>
  cases v with
  |ref j=>rw [aM e]
  |_=>exact aB e
theorem MC(e:Fq E=true):E=.dj:=by
 cases E with
 |dj=>rfl
 |_=>exact bz e
theorem uY(e:sO I E=some x):I=true/\E=some x:=by
 cases I with
 |false=>exact aB e
 |true=>exact⟨rfl,e⟩
theorem N2(e:GN f B=true):∃a,B=[a]/\f a=true:=by
 cases B with
 |nil=>exact bz e
 |cons a B=>cases B with
  |nil=>exact⟨a,rfl,e⟩
  |cons=>exact bz e
theorem AS(e:xR o v=true):v=some (.ref 0)/\o.t.get 0=some .dj:=by
 refine ay (nH e) λi h e=>?_
 have z:=dU (bx e)
 rw [<-z]
 refine ay (nH (bL e)) λE h1 e=>?_
 exact⟨Oh h,by rw [h1,MC e]⟩
theorem Ew(e:Ai o v=some r):∃i b,v=some (.ref i)/\1<=i/\o.t.get i=some (.list b r):=by
 refine ay (fp e) λi h e=>?_
 refine ay (fp e) λp h1 e=>?_
 refine xA (jA e) λI aI=>?_;rw [<-aI]
 exact⟨i,p.1,Oh h,dw I,sY h1⟩
theorem Iu(e:pU (gw (dE B i))=true):B[i]?=some (some (.tok 0)):=by
 generalize h:dE B i=ax at e
 cases ax with
 |none=>nomatch e
 |some v=>rw [mP h,xT (v:=v) e]
theorem wc(e:nI (dE B i)=m)(h:m≠.any):B[i]?=some (some m):=GQ e h
theorem Sp(h:anyB f B=true):∃q∈B,f q=true:=xn h
theorem AM:∀{B:G D} {i:H},pR B v=some i->B[i]?=some v:=by
 have key:∀{B:G D} {i k:H},(@b9 D (λ_=>H->aa H) (λ_=>.none) (λa _ f i=>@bN (λ_=>aa H) (f (cX i)) (some i) (eW a v)) B k)=some i->k<=i/\B[i-k]?=some v:=by
  intro B
  induction B with
  |nil=>intro i k e;nomatch (e:none=some i)
  |cons a B O=>
   intro i k e
   dsimp only at e
   generalize I:eW a v=ax at e
   cases ax with
   |true=>
    have e:=aM e
    rw [e]
    rw [Rt,iK I]
    exact⟨fG _,rfl⟩
   |false=>
    refine xA (O e) λh1 h2=>?_
    have h1:k+1<=i:=h1
    have h2:B[i-(k+1)]?=some v:=h2
    refine⟨Rd h1,?_⟩
    rw [show i-k=(i-(k+1))+1 from(Rq (Rr h1)).symm.trans (cq (· +1) (Ru i k 1))]
    exact h2
 intro B i e
 exact(key (k:=0) e).2
theorem XY(e:My v=some b):v=.bool b:=by
 cases v with
 |bool I=>rw [aM (e:some I=some b)]
 |_=>nomatch e
theorem Mz(e:Fo b f v=true):∃B,v=.aD (.list b) B/\f B=true:=by
 cases v with
 |aD k B=>
  cases k with
  |list I=>exact⟨B,by rw [dU (bx e)],bL e⟩
  |_=>exact bz e
 |_=>exact bz e
theorem X8(e:Ft ws v=true):v=gJ ws:=by
 refine ay (Mz e) λB aI e=>?_;rw [aI]
 unfold gJ
 rw [eu e]
theorem Sn{k:H->ah}(e:(@nZ (λ_=>ah) true (λi a=>k i&&a) n)=true):∀d,d<n->k d=true:=by
 induction n with
 |zero=>exact λd h=>bP h (zq d)
 |succ n O=>
  have e:=aN.mp (e:(k n&&@nZ (λ_=>ah) true (λi a=>k i&&a) n)=true)
  exact λd h=>(Rf.mp h).elim (O e.2 d) λq=>q▸e.1
theorem zH:bZ wV (λr=>r=true):=⟨(λe=>nomatch e),λn k e d hd=>Sn e d hd⟩
theorem oM:uk c w aQ (λ_=>none):=λi m e=>nomatch e
theorem af8:J0=dq:=rfl
theorem PD(u:H):yQ u=cC u:=by unfold yQ cC;rfl
theorem Fj(ws:G H):∀m∈fs ws,bC m=true:=λm hm=>by
 refine ay (cF.mp hm) λi _ aE=>?_;subst aE
 rfl
theorem we(ws:G H):bC (gJ ws)=true:=by
 unfold gJ
 rw [<-fB,s9]
 exact yz (Fj ws)
end
end
theorem adt:dq.map oS=dq.map oT:=by
 unfold dq
 exact gc adh (gc adi (gc adj (gc adk (gc adl (gc adm (gc adn ado))))))
theorem Uy:dq.map ow=dq.map oz:=by
 unfold dq
 exact gc Up (gc Uq (gc Ur (gc Us (gc Ut (gc Uu (gc Uv Uw))))))
theorem afm(h:ws∈dq):bC (.tup (ws.map rD))=true:=(aN.mp (Bj λm hm=>by obtain⟨w,hw,rfl⟩:=cF.mp hm;exact(Bs h).1 w hw)).1
theorem o5(u:H):bC (cC u)=true:=match u with|0=>rfl|1=>rfl|_+2=>rfl
theorem B3(u:H):cJ (handed (cC u))=true:=match u with|0=>rfl|1=>rfl|_+2=>rfl
theorem Pa(t:ah):bC (iL t)=true:=by cases t<;>rfl
theorem aeJ(t:ah):cJ (handed (iL t))=true:=by cases t<;>rfl
theorem Ih(h:ws∈dq)(t:ah):bC (c_ ws t)=true:=nS (Bs h).1
theorem DQ(ca:cE aQ aJ [a] [a'])(cb:cE aQ aJ [b] [b']):cE aQ aJ [dk a (cD b)] [dk a' (cD b')]:=λo β FZ=>
 .cons (.tup (.cons (.same rfl) (.cons (.same rfl) (.cons (.same rfl) (.cons (ca.one o β FZ) (.cons (.tup (.cons (.same rfl) (.cons (.same rfl) (.cons (.same rfl) (.cons (.same rfl) (.cons (cb.one o β FZ) .nil)))))) .nil)))))) .nil
theorem uz(p:bC m=true)(q:cJ (handed m)=true)(e:aJ j=some m):cE aQ aJ [m] [.tok j]:=λ_ _ _=>.cons (.eT p q e) .nil
theorem iG(e:aQ j=some m):cE aQ aJ [.tok j] [m]:=λ_ _ _=>.cons (.fe e) .nil
theorem eU(a:cE aQ aJ [m] [m'])(b:cE aQ aJ B l'):cE aQ aJ (m::B) (m'::l'):=λo β FZ=>.cons (a.one o β FZ) (b o β FZ)
theorem KG:cE aQ aJ [] []:=λ_ _ _=>.nil
theorem kj(a:cE aQ aJ B l'):cE aQ aJ [.tup B] [.tup l']:=λo β FZ=>.cons (.tup (a o β FZ)) .nil
section
variable{c:a_}{w:dF}{J:aP}{K:b8}{mg mb:ar->aa aw}{Y:bG}{F C:G aA}{s:aT}{h M:aP}{o:MH}{aL:H->aa D}{eC a:H}
noncomputable def aeq(up tl:D):H->aa D
 |22=>some up
 |23=>some tl
 |_=>.none
theorem adq(aV:Base c w K cz J mg mb)(h:ws∈dq)(u:H)(t:ah):mh c w J aH 60 630 [gJ ws,cC u,iL t] (dk (cC u) (cD (c_ ws t))):=by
 have e:=fU adt ws h
 unfold oS oT at e
 refine Hh (aL:=aeq (cC u) (iL t)) (aV.sound oM hN lM (.inl jD) (mj _) 60) e (eU (et (we ws)) (eU (uz (o5 u) (B3 u) rfl) (uz (Pa t) (aeJ t) rfl))) (DQ (iG rfl) ?_)
 exact kj (eU (et rfl) (eU (et (afm h)) (iG rfl)))
noncomputable def rx(ws:G H):H->aa D
 |0=>some aH
 |41=>some (gJ ws)
 |24=>some (c_ ws false)
 |25=>some (c_ ws true)
 |_=>.none
theorem O8(t:ah):rx ws (BZ t)=some (c_ ws t):=by cases t<;>rfl
theorem aeU:cJ (handed (c_ ws t))=true:=rfl
theorem abg(aV:Base c w K cz J mg mb)(h:ws∈dq):iF c (wb c w (rx ws)) J (gp cz (kP 60 JE []) tv eq pull):=by
 refine vI (λp hp o=>?_) (λd hd=>nomatch hd)
 refine ay (mc.mp hp) λu _ hp=>?_
 refine ay (cF.mp hp) λt _ aE=>?_;rw [<-aE]
 rw [PD]
 exact rh (adq aV h u t) (eU (iG rfl) (eU (et (o5 u)) (et (Pa t)))) (DQ (et (o5 u)) (uz (Ih h t) aeU (O8 t)))
theorem TU(aV:Base c w K cz J mg mb)(hk:k<4):mh c w J aH 20 623 [fR k] (hU k):=by
 have e:=fU TS k (yb hk)
 have k1:bC (fR k)=true/\bC (hU k)=true:=by rcases pX hk with rfl|rfl|rfl|rfl<;>exact⟨rfl,rfl⟩
 exact Ae aV lM e (λm hm=>by rw [cA.mp hm];exact k1.1) k1.2
noncomputable def lY(u:H)(t:ah)(k num:H)(d_:D):H->aa D
 |0=>some aH
 |27=>some (cC u)
 |28=>some (.bool t)
 |30=>some (hU k)
 |31=>some (fR k)
 |32=>some (.int (.ofNat num))
 |40=>some d_
 |_=>.none
theorem Fy(hk:k<4):bC (fR k)=true/\bC (hU k)=true/\cJ (handed (fR k))=true/\cJ (handed (hU k))=true:=by rcases pX hk with rfl|rfl|rfl|rfl<;>exact⟨rfl,rfl,rfl,rfl⟩
theorem KA(aV:Base c w K cz J mg mb)(hk:k<4)(t1:aL 31=some (fR k))(t2:aL 30=some (hU k)):iF c (wb c w aL) J (gp cz (kP 20 zY []) tv eq pull):=by
 refine vI (λp hp o=>?_) (λd hd=>nomatch hd)
 rw [cA.mp hp]
 refine eN (Fy hk) λk1 k2 k3 k4=>?_
 exact rh (TU aV hk) (iG t1) (uz k2 k4 t2)
noncomputable def ui(c:a_)(w:dF)(J:aP)(KT:D)(eC a:H)(args:G D)(R5:D):Prop:=
 ∀(Y:bG) (F:G aA) (s:aT) (V:G aw),eY eC Y->St c (wb c w (aU KT)) J F [] ⟨.nil,0⟩ s.heap->aW c (wb c w (aU KT)) F [] s.heap args V->bc c (wb c w (aU KT)) Y [] [] s (call (.ref a) V) (λv _ M=>Js c w KT F R5 v s.heap M)
theorem Y8(e:F4 m o=some (.aD (.dict ks) B)):∃i R,m=.ref i/\o.t.get i=some (.dict R)/\R.map (·.1)=ks.map D.str/\R.map (·.2)=B:=by
 cases m with
 |ref i=>
  refine ay (fp e) λR h1 e=>?_
  refine xA (jA e) λI e=>?_
  refine xA (D.V5 e) λe1 e2=>?_
  rw [pY] at e2
  exact⟨i,R,rfl,yj h1,FK.Ub e1▸FG I,e2⟩
 |none=>nomatch e
 |_=>exact aB e
theorem aay(gq:Sound (λr:aa D=>r=some (.aD (.dict ks) l')) c (wb c w aL) J eC (run ip W eC))(ev:(run ip W eC).call (.fn a) oh ⟨.nil,0⟩ F4=some (.aD (.dict ks) l'))(ca:cE (aU KT) aL args oh)(cl:cE aL (aU KT) l' B)(pl:∀m∈B,bC m=true):ui c w J KT eC a args (.aD (.dict ks) B):=by
 intro Y F s V room S y Q au q
 refine gq.call Y F [] s ⟨.nil,0⟩ (.fn a) (.ref a) oh V _ room (S.bare (λa ha=>.inl ha) aL) (by rfl) (ca.qp S (λa ha=>.inl ha) (λa ha=>nomatch ha) y) ev _ _ λv bq h1 aZ aS p1=>?_
 obtain⟨m,bM,e1,S1,x1⟩:=p1
 refine eK (Y8 e1) λi R aE g1 k1 k2=>?_;subst aE
 refine ay x1 ?_;clear x1;intro ad ea aE;subst aE
 have len:ks.length=B.length:=by
  have h1:=cq zh k1
  have h2:=cq zh k2
  have h3:=(cl ⟨.nil,0⟩ (λ_=>.none) (λ_=>dP)).length
  rw [cZ,cZ] at h1
  rw [cZ] at h2
  lia
 have z1:((ks.map D.str).zip B).map (·.1)=ks.map D.str:=QU (by rw [cZ];lia)
 have z2:((ks.map D.str).zip B).map (·.2)=B:=List.map_snd_zip (by rw [cZ];lia)
 refine q _ bq h1 aZ aS (.inr ⟨ad,(ks.map D.str).zip B,ks,rfl,?_,by rw [z2],z1,λp hp=>pl _ (by rw [<-z2];exact cF.mpr ⟨p,hp,rfl⟩),?_⟩)
 .cases z:s.heap.get? ad with
  |none=>rfl
  |some ob=>exact bP (dy ea) (aS.out ad ob z (λz=>nomatch z)).2
 .refine gR.ok (aJ:=aU KT) S1 (β:=λ_=>.none) (FZ:=λ_=>dP) (λ_ _ _ e=>nomatch e) (λb E _ sf=>⟨sf.1,λz=>sf.2 ?_⟩) (λ_ _ z=>z.elim) (.dict (by rw [k1,z1]) (by rw [k2,z2];exact cl _ _ _)) (S1.ref ea g1)
  rw [cA.mp z];exact dy ea
noncomputable def vW(k num:H):H->aa D
 |30=>some (hU k)
 |31=>some (fR k)
 |32=>some (.int (.ofNat num))
 |_=>.none
noncomputable def oZ(k:H)(ws:G H):aa D:=vY k (ws.any i7) (ws.any fH)
noncomputable def oO(num:H)(ws:G H):aa H:=match ws.any λw=>bA w 2 with
 |true=>some num
 |false=>.none
theorem Ux(aV:Base c w K cz J mg mb)(h:ws∈dq){k num:H}(hk:k<4):ui c w J aH 60 642 [gJ ws,fR k,.int (.ofNat num)] (sr (oZ k ws) (oO num ws)):=by
 refine eN (Fy hk) λk1 k2 k3 k4=>?_
 have e:=fU Uy ws h
 unfold ow oz at e
 have pj:iF c (wb c w (vW k num)) J (gp cz (kP 20 zY []) (λ_=>.none) (λ_ _=>.none) 0):=KA aV hk rfl rfl
 have ca:cE (aU aH) (vW k num) [gJ ws,fR k,.int (.ofNat num)] [gJ ws,.tok 31,.tok 32]:=eU (et (we ws)) (eU (uz k1 k3 rfl) (uz rfl rfl rfl))
 have cn:cE (vW k num) (aU aH) [.tup [sN,.tok 32]] [Mine.Internal.num num]:=kj (eU (et rfl) (iG rfl))
 have pn:bC (Mine.Internal.num num)=true:=rfl
 have go:∀{ks:G ar} {B l':G D},some (D.aD (.dict ks) l')=some (match vZ ws with
   |some k=>match ws.any λw=>bA w 2 with
    |true=>.aD (.dict [mK,nP]) [k,.tup [sN,.tok 32]]
    |false=>.aD (.dict [mK]) [k]
   |.none=>match ws.any λw=>bA w 2 with
    |true=>.aD (.dict [nP]) [.tup [sN,.tok 32]]
    |false=>.aD (.dict []) [])->cE (vW k num) (aU aH) l' B->(∀m∈B,bC m=true)->ui c w J aH 60 642 [gJ ws,fR k,.int (.ofNat num)] (.aD (.dict ks) B):=λe2 cl pl=>aay (aL:=vW k num) (aV.sound oM hN pj (.inl jD) (mj _) 60) (e.trans e2.symm) ca cl pl
 have tw:(vZ ws=.none/\oZ k ws=.none)\/∃j v,vZ ws=some (.tok j)/\oZ k ws=some v/\vW k num j=some v/\bC v=true:=by
  unfold vZ oZ vY
  cases c1:ws.any fH with
  |true=>exact .inr ⟨31,_,rfl,rfl,rfl,k1⟩
  |false=>
   have e:(ws.any vZ.MG)=ws.any i7:=rfl
   rw [e]
   cases c2:ws.any i7 with
   |true=>exact .inr ⟨30,_,rfl,rfl,rfl,k2⟩
   |false=>exact .inl ⟨rfl,rfl⟩
 unfold oO
 rcases tw with⟨e1,e2⟩|⟨j,v,e1,e2,e3,pv⟩
 .rw [e1] at go
  rw [e2]
  cases I:ws.any λw=>bA w 2 with
  |true=>
   rw [I] at go
   exact go rfl cn λm hm=>by rw [cA.mp hm];exact pn
  |false=>
   rw [I] at go
   exact go rfl KG λm hm=>nomatch hm
 .rw [e1] at go
  rw [e2]
  cases I:ws.any λw=>bA w 2 with
  |true=>
   rw [I] at go
   refine go rfl (eU (iG e3) cn) λm hm=>?_
   simp only [bY,eP,gH] at hm
   rcases hm with rfl|rfl
   .exact pv
   .exact pn
  |false=>
   rw [I] at go
   exact go rfl (iG e3) λm hm=>by rw [cA.mp hm];exact pv
theorem NA(P:ui c w J aH eC a args (.aD (.dict ks) (R.map (·.2))))(hk:R.map (·.1)=ks.map D.str)(ca:cE aL (aU aH) oh args)(I:cJ ((o.t.ins o.n (.dict R)).get o.n)=true):nV c (wb c w aL) J eC a oh o (.ref o.n) ⟨o.t.ins o.n (.dict R),cX o.n⟩:=by
 intro Y F C s V room S y Q au q
 have dG:∀a∈F++C,a∈F\/a∈C:=λa ha=>dI.mp ha
 have SK:=S.bare dG (aU aH)
 refine P Y (F++C) s V room SK (ca.qp S dG (λa ha=>nomatch ha) y) _ _ λv bq h1 aZ aS p1=>?_
 have keep:∀b E,s.heap.get? b=some E->h1.get? b=some E:=λb E e=>aS.keep b E e (λz=>nomatch z) (λz=>nomatch z)
 rcases p1 with⟨e,_⟩|⟨ad,qM,xX,rfl,fr,e1,e2,e3,x⟩
 .nomatch e
 .injection e1 with e4 e5
  injection e4 with e4
  have UL:qM=R:=by
   have h1:qM.map (·.1)=R.map (·.1):=by rw [e2,hk,e4]
   rw [<-Q_ qM,<-Q_ R,Q8,Q9,Q8,Q9]
   refine(?_:(qM.map (·.1)).zip (qM.map (·.2))=(R.map (·.1)).zip (R.map (·.2)))
   rw [h1,e5]
  subst UL
  have aa5:∀b E,h1.get? b=some E->cM (F++C) [ad] b->cM F (C++[ad]) b:=λb E _ sf=>⟨λz=>sf.1 (iR _ z),λz=>(dI.mp z).elim (λz=>sf.1 (fC _ z)) sf.2⟩
  have ob:OR c (wb c w aL) F (C++[ad]) h1 ad (.dict qM):=by
   refine xA x ?_;clear x;intro x y
   refine⟨?_,y⟩
   have pv:∀(p:D×D),p∈qM->∀v,VR c (wb c w (aU aH)) (F++C) [ad] h1 p.2 v->VR c (wb c w aL) F (C++[ad]) h1 p.2 v:=λp hp v xv=>xv.plain (w:=wb c w (aU aH)) (w':=wb c w aL) aa5 rfl (e3 p hp)
   have un:∀{L:Type} {key:L->D} {B:G (D×D)} {aR:G (L×aw)},(∀p∈B,p∈qM)->Under (VR c (wb c w (aU aH)) (F++C) [ad] h1) key B aR->Under (VR c (wb c w aL) F (C++[ad]) h1) key B aR:=by
    intro L key B aR hl u
    induction u with
    |nil=>exact .nil
    |cons a b O=>exact .cons (pv _ (hl _ (.head _)) _ a) (O λp hp=>hl p (.tail _ hp))
   rcases x with⟨aR,d,u,z⟩|⟨aR,d,u⟩
   .exact .inl ⟨aR,d,un (λp hp=>hp) u,z⟩
   .exact .inr ⟨aR,d,un (λp hp=>hp) u⟩
  refine cf (S.alloc fr keep ob I) λst S1 hp=>?_
  exact q _ _ h1 aZ st ⟨S1,by exact⟨ad,hp,rfl⟩⟩
theorem aaz(P:ui c w J aH eC a args .none):mh c w J aH eC a args .none:=by
 intro Y F s V room S y Q au q
 refine P Y F s V room S y _ _ λv bq h1 aZ aS p1=>q v bq h1 aZ aS ?_
 rcases p1 with⟨_,e⟩|⟨_,_,_,_,_,e,_⟩
 .exact e
 .nomatch e
end
theorem cG.app(x:cG aQ aJ o β FZ B l')(y:cG aQ aJ o β FZ m m'):cG aQ aJ o β FZ (B++m) (l'++m'):=by
 induction B generalizing l' with
 |nil=>cases x with
  |nil=>exact y
 |cons a B O=>cases x with
  |cons a b=>exact .cons a (O b)
theorem cG.take(n:H)(x:cG aQ aJ o β FZ B l'):cG aQ aJ o β FZ (B.take n) (l'.take n):=by
 induction n generalizing B l' with
 |zero=>exact .nil
 |succ n O=>cases x with
  |nil=>exact .nil
  |cons a b=>exact .cons a (O b)
theorem cG.drop(n:H)(x:cG aQ aJ o β FZ B l'):cG aQ aJ o β FZ (B.drop n) (l'.drop n):=by
 induction n generalizing B l' with
 |zero=>exact x
 |succ n O=>cases x with
  |nil=>exact .nil
  |cons _ b=>exact O b
noncomputable def mM(u:H)(d_:D)(ps:G D)(i:H):aa D:=if i=0 then some aH else if i=27 then some (cC u) else if i=40 then some d_ else if 50<=i then ps[i-50]? else none
theorem afO(h:ws∈dq):gA t ws=true:=by
 have:allB (gA t) dq=true:=by
  have app:∀{B m:G (G H)},allB (gA t) B=true->allB (gA t) m=true->allB (gA t) (B++m)=true:=by
   intro B m h1 h2
   induction B with
   |nil=>exact h2
   |cons a B O=>
    refine xA (aN.mp (h1:(gA t a&&allB (gA t) B)=true)) λe1 e2=>?_
    refine(?_:(gA t a&&allB (gA t) (B++m))=true)
    rw [e1,O e2];rfl
  unfold dq
  cases t
  .exact app afE (app afF (app afG (app afH (app afI (app afJ (app afK afL))))))
  .exact app afP (app afQ (app afR (app afS (app afT (app afU (app afV afW))))))
 exact b7 this ws h
theorem aeF:mM u d_ ps (50+i)=ps[i]?:=by
 unfold mM
 rw [bk (by lia),bk (by lia),bk (by lia),bT (by lia),jO]
section
variable{c:a_}{w:dF}{J:aP}{K:b8}{mg mb:ar->aa aw}{Y:bG}{F C:G aA}{s:aT}{h M:aP}{o:MH}{aL aQ aJ:H->aa D}{eC a:H}
theorem z6(ht:∀i,i<ps.length->aQ (50+i)=ps[i]?)(o:MH)(β:H->aa H)(FZ:H->Prop):cG aQ aJ o β FZ (toks ps.length) ps:=by
 have:=qI (aQ:=aQ) (aJ:=aJ) (o:=o) (β:=β) (FZ:=FZ) (f:=λi=>.tok (50+i)) (g:=λi=>ps.getD i .none) (B:=fZ ps.length) λi hi=>by
  have hi:=md.mp hi
  exact .fe (by rw [ht i hi,cV hi];simp [qA,hi])
 rw [map_getD] at this
 exact this
theorem DS(ht:∀i,i<ps.length->aJ (50+i)=ps[i]?)(pl:∀m∈ps,cR m=true)(o:MH)(β:H->aa H)(FZ:H->Prop):cG aQ aJ o β FZ ps (toks ps.length):=by
 have:=qI (aQ:=aQ) (aJ:=aJ) (o:=o) (β:=β) (FZ:=FZ) (f:=λi=>ps.getD i .none) (g:=λi=>.tok (50+i)) (B:=fZ ps.length) λi hi=>by
  have hi:=md.mp hi
  refine xA (aN.mp (pl _ (getD_mem hi))) λk1 k2=>?_
  exact .eT k1 k2 (by rw [ht i hi,cV hi];simp [qA,hi])
 rw [map_getD] at this
 exact this
theorem Ob(hi:i<aG.length)(k num:H):setAt (cY k num aG 0) i aF=jc k num (aG.take i) (aG.drop (i+1))/\aG=aG.take i++aG[i]::aG.drop (i+1):=by
 refine⟨?_,?_⟩
 .unfold setAt cY jc
  refine(?_:(List.take i (_++[]))++aF::List.drop (i+1) (_++[])=_)
  rw [h_,QW,QT]
 .rw [<-List.drop_eq_getElem_cons hi,List.take_append_drop]
theorem LL(hi:i<aG.length):(bD aG).getD i 0=aG[i].1:=by
 unfold bD
 simp [qA,hi]
noncomputable def FL(ub:ah)(ws:G H)(i:H):ah:=dB i ws.length&&bA (ws.getD i 0) 0&&(ws.drop (i+1)).all (λx=>!(bA x 0))&&(ub||((ws.take i).any (λx=>bA x 0)&&!(ws.any fH)))
theorem YA:allB (λws=>allB (FL true ws) (A1 true ws)&&allB (FL false ws) (A1 false ws)) dq=true:=by kernel_rfl
theorem YB(hw:bD aG∈dq)(h:i∈A1 ub (bD aG)):∃hi:i<aG.length,aG[i].1=0/\(∀x∈aG.drop (i+1),x.1≠0)/\(ub=true\/(∃x∈aG.take i,x.1=0)/\(bD aG).any fH=false):=by
 have I:FL ub (bD aG) i=true:=by
  have I:=b7 YA _ hw
  cases ub with
  |true=>exact b7 (bx I) i h
  |false=>exact b7 (bL I) i h
 have c2:=bx I
 have hi:i<aG.length:=by
  have:=dw (bx (bx c2))
  unfold bD at this
  rwa [cZ] at this
 refine⟨hi,(LL hi).symm.trans (dU (bL (bx c2))),λx hx q=>?_,(k_.mp (bL I)).imp_right λI=>⟨?_,(wi _).mp (bL I)⟩⟩
 .have:=l9.mp (bL c2) x.1 (by unfold bD;rw [<-QT];exact QZ hx)
  rw [q] at this
  exact bz this
 .refine ay (zd.mp (bx I)) λy hy e=>?_
  unfold bD at hy
  rw [<-QW] at hy
  refine ay (cF.mp hy) λx hx aE=>?_;subst aE
  exact⟨x,hx,dU e⟩
theorem OA(h:i<B.length):(setAt B i v).length=B.length:=by
 unfold setAt
 rw [fy,iQ,zj,rL,Rh (rS h),mV _ 1,<-ph]
 exact wG h
theorem Ag(h1:1<=n)(h2:n<=3)(t:ah):(n,n,t)∈fits:=(by decide:∀n,n<4->1<=n->∀t:ah,(n,n,t)∈fits) n (rT h2) h1 t
theorem VA:∀n,n<4->1<=n->(n+1,n,true)∈fits:=by decide
theorem VC:∀n,n<4->1<=n->(n+2,n,true)∈fits:=by decide
theorem Z5(h1:1<=n)(h2:n<=3):(n+1,n,false)∈p8:=(by decide:∀n,n<4->1<=n->(n+1,n,false)∈p8) n (rT h2) h1
theorem Z4(h1:1<=n)(h2:n<=3)(t:ah):(n-1,n,t)∈p8:=(by decide:∀n,n<4->1<=n->∀t:ah,(n-1,n,t)∈p8) n (rT h2) h1 t
theorem J1(h:ws∈dq):1<=ws.length:=by
 have:allB (λws:G H=>eB 1 ws.length) dq=true:=by decide+kernel
 exact dw (b7 this ws h)
noncomputable def mq(u:H)(ws:G H):H:=match vD ws with
 |true=>2
 |false=>match u with
  |0=>0
  |_=>1
theorem aa7(aV:Base c w K cz J mg mb)(h:bD aG∈dq){k u num:H}(hk:k<4)(hu:u<3)(hn:num∈[1,2,3])(ht:∀i,i<aG.length->aL (50+i)=(cY k num aG 0)[i]?)(hL:L∈ones (Io (mq u (bD aG))) t (bD aG)):
  ∃L',(∀o β FZ,cG aL (aU aH) o β FZ L L')/\kh c w J aH 180 (oneOf L') (dk (cC u) (cD (c_ (bD aG) t))) .none:=by
 have hw:∀wd∈aG,wd.1∈six:=λwd m=>lW h _ (cF.mpr ⟨wd,m,rfl⟩)
 have l3:=r4 h
 have l1:=J1 h
 have len:(bD aG).length=aG.length:=by unfold bD;rw [cZ]
 rw [len] at l1 l3
 have lp:(cY k num aG 0).length=aG.length:=by unfold cY;rw [fy,cZ];rfl
 have nL:=vK hk hn hw (ik:=0)
 have ct:∀o β FZ,cG aL (aU aH) o β FZ (toks aG.length) (cY k num aG 0):=λo β FZ=>by
  have:=z6 (aQ:=aL) (aJ:=aU aH) (ps:=cY k num aG 0) (λi hi=>ht i (lp▸hi)) o β FZ
  rw [lp] at this
  exact this
 have at_:∀{i:H},i<aG.length->(∀o β FZ,cG aL (aU aH) o β FZ (setAt (toks aG.length) i aF) (setAt (cY k num aG 0) i aF)):=λhi o β FZ=>((ct o β FZ).take _).app (.cons (.same rfl) ((ct o β FZ).drop _))
 unfold ones at hL
 rw [len] at hL
 rcases dI.mp hL with hL|hL
 .cases t with
  |true=>nomatch hL
  |false=>
   rw [cA.mp hL]
   refine⟨cY k num aG 0++[j0],λo β FZ=>(ct o β FZ).app (.cons (.same rfl) .nil),Nn aV h (λp hp=>?_) ?_⟩
   .rcases dI.mp hp with q|q
    .exact nL p q
    .rw [cA.mp q];exact .tail _ (.tail _ (.tail _ (.head _)))
   .rw [fy,lp,len];exact Z5 l1 l3
 .refine dC (bY.mp hL) (λrf=>?_) λhL=>?_
  .rw [rf];refine⟨(cY k num aG 0).dropLast,λo β FZ=>?_,Nn aV h (λp hp=>nL p ((List.dropLast_sublist _).subset hp)) ?_⟩
   .rw [ze,ze]
    have e1:(toks aG.length).length=aG.length:=by unfold toks;rw [cZ,wB]
    rw [e1,lp]
    exact(ct o β FZ).take _
   .rw [QO,lp,len];exact Z4 l1 l3 t
  .refine ay (cF.mp hL) λi hi aE=>?_;subst aE
   rcases dI.mp hi with hi|hi
   .refine xA (t7.mp hi) λi1 i2=>?_
    have i1:=md.mp i1
    rw [len] at i1
    refine xA (Ob i1 k num) λe1 e2=>?_
    refine⟨_,at_ i1,?_⟩
    rw [e1]
    have ne:aG[i].1≠0:=λq=>by rw [LL i1,q] at i2;nomatch i2
    have M:=h
    rw [e2] at M
    have:=ZJ (t:=t) aV hk hu hn M ne (by
     have:(jc k num (aG.take i) (aG.drop (i+1))).length=aG.length:=by rw [<-e1];exact(OA (lp.symm▸i1)).trans lp
     rw [this,<-e2,len];exact Ag l1 l3 t)
    rw [<-e2] at this
    exact this
   .refine fM (YB h hi) λi1 z0 nz cond=>?_
    refine xA (Ob i1 k num) λe1 e2=>?_
    refine⟨_,at_ i1,?_⟩
    rw [e1]
    have M:=h
    have e3:aG[i]=(0,aG[i].2):=by rw [<-z0]
    rw [e2,e3] at M
    have hf:((jc k num (aG.take i) (aG.drop (i+1))).length,(bD (aG.take i++(0,aG[i].2)::aG.drop (i+1))).length,t)∈fits:=by
     have:(jc k num (aG.take i) (aG.drop (i+1))).length=aG.length:=by rw [<-e1];exact(OA (lp.symm▸i1)).trans lp
     rw [this,<-e3,<-e2,len];exact Ag l1 l3 t
    have pL:kh c w J aH 180 (oneOf (jc k num (aG.take i) (aG.drop (i+1)))) (dk (cC u) (cD (c_ (bD (aG.take i++(0,aG[i].2)::aG.drop (i+1))) t))) .none:=by
     by_cases u0:u=0
     .subst u0
      have aaK:Io (mq 0 (bD aG))=false:=by unfold mq;cases vD (bD aG)<;>rfl
      rw [aaK] at cond
      rcases cond with q|⟨q1,q2⟩
      .nomatch q
      .exact ZL aV hk hn M q1 (by rw [<-e3,<-e2];exact q2) hf
     .have ae3:u∈[1,2]:=by
       rcases qZ hu with rfl|rfl|rfl
       .exact bP rfl u0
       .decide
       .decide
      exact ZK aV hk ae3 hn M nz hf
    rw [<-e3,<-e2] at pL
    exact pL
theorem Tv{a b:D}(e:Ec (mq u ws) a b=some r):mq u ws=1/\u≠0:=by
 unfold mq at e⊢
 generalize I:vD ws=ax at e
 cases ax with
 |true=>nomatch e
 |false=>
  cases u with
  |zero=>nomatch e
  |succ u=>exact⟨rfl,rV u⟩
theorem ZQ(h:u≠0):uE (⟨.nil,0⟩:MH) (cC u) kO=some false:=by
 cases u with
 |zero=>exact bP rfl h
 |succ u=>cases u with
  |zero=>kernel_rfl
  |succ u=>kernel_rfl
theorem U5(aV:Base c w K cz J mg mb)(ht:aL 27=some (cC u))(hk:aL 0=some aH):∀a b r,Ec (mq u ws) a b=some r->tV c (wb c w aL) J a b r:=by
 intro a b r e
 have hc:=Tv e
 rw [hc.1] at e
 have e:(match gO 27 a&&eW b kO with
  |true=>some false
  |false=>.none)=some r:=e
 refine xA (bI e) λI e=>?_
 have e:=aM e
 rw [<-e]
 refine xA (aN.mp I) λc1 c2=>?_
 rw [lF c1,iK c2]
 intro Y own F C s o u1 u2 S hu x1 x2
 have T:=aV.top (aL:=aU aH) (gX:=λ_ _ _=>.none) (tv:=ke) (eq:=λ_ _=>.none) (pull:=0) (kY rfl) hN
 have dG:∀a∈F++C,a∈F\/a∈C:=λa ha=>dI.mp ha
 have SK:=S.bare dG (aU aH)
 have X1:=(iG (aJ:=aU aH) ht).vr S dG (λa (ha:a∈([]:G aA))=>nomatch ha) x1
 have X2:=(et (aQ:=aL) (aJ:=aU aH) (m:=kO) rfl).vr S dG (λa (ha:a∈([]:G aA))=>nomatch ha) x2
 have me:=ZQ hc.2
 refine xA (Ac (own:=[]) T SK hu me X1 X2) λE1 E2=>?_
 refine⟨λQ au q=>E1 Q au λv bq h1 aZ aS p1=>?_,λQ au q=>E2 Q au λv bq h1 aZ aS p1=>?_⟩
 .refine cf p1 ?_;clear p1;intro eJ aI aE;subst eJ;subst aI;subst aE
  exact q _ C _ aZ (.refl ..) ⟨rfl,rfl,rfl⟩
 .refine cf p1 ?_;clear p1;intro eJ aI aE;subst eJ;subst aI;subst aE
  exact q _ C _ aZ (.refl ..) ⟨rfl,rfl,rfl⟩
end
section
variable{c:a_}{w:dF}{J:aP}{K:b8}{mg mb:ar->aa aw}{Y:bG}{F F2 C:G aA}{s:aT}{h M:aP}{o:MH}{aL aQ aJ:H->aa D}{eC a:H}{aj ap:aA}
theorem Im(S:St c (wb c w aQ) J F C o h)(e0:C[0]?=some aj)(e1:C[i]?=some ap)(hi:i≠0)(j:o.t.get 0=some .dj)(B:o.t.get i=some (.list b r))(I:cE aQ aJ r r')(lr:r'.length<=b')(lb:b'<=4096)(dG:∀a∈F2,a∈F\/(a∈C/\a≠aj/\a≠ap)):
  St c (wb c w aJ) J F2 [aj,ap] (fA [.dj,.list b' r']) h:=by
 have ne:aj≠ap:=λq=>hi (qe S.apart e1 (q▸e0))
 have sub:∀a∈[aj,ap],a∈C:=λa ha=>by
  simp only [bY,eP,gH] at ha
  rcases ha with rfl|rfl
  .exact dy e0
  .exact dy e1
 refine S.mJ (β:=λ_=>.none) (FZ:=λ_=>dP) rfl (by simp [ne]) (λa ha=>?_) (λa E _ sf=>⟨λq=>(dG a q).elim sf.1 λz=>sf.2 z.1,λq=>sf.2 (sub a q)⟩) (λ_ _ q=>q.elim) (λ_ _ _ q=>nomatch q) (λk a ek=>?_)
 .rcases dG a ha with q|⟨q1,q2,q3⟩
  .refine cf (S.cI a q) λz1 z2 z3=>?_
   exact⟨z1,λz=>z2 (sub a z),z3⟩
  .obtain⟨i',ES,e⟩:=iE q1
   refine ay (S.at_ i' a (by rw [cV ES,e])) λE _ x=>?_
   refine⟨x.some,λz=>?_,?_⟩
   .simp only [bY,eP,gH] at z
    exact z.elim q2 q3
   .cases z:J.get? a with
    |none=>rfl
    |some E=>exact bP q1 (S.keep a E z).2
 .match k,ek with
  |0,ek=>cases ek;exact⟨0,_,_,e0,j,rfl,.dj⟩
  |1,ek=>cases ek;exact⟨i,_,_,e1,B,rfl,.list (I _ _ _) lr lb⟩
noncomputable def JS(c:a_)(w:dF)(J:aP)(KT:D)(eC:H)(args ps:G D):Prop:=
 ∀(Y:bG) (F:G aA) (aj ap:aA) (s:aT) (V:G aw),eY eC Y->St c (wb c w (aU KT)) J F [aj,ap] (fA [.dj,.list 63 ps.reverse]) s.heap->aW c (wb c w (aU KT)) F [aj,ap] s.heap args V->
  bc c (wb c w (aU KT)) Y [] [aj,ap] s (call (.ref 654) V) (λv _ M=>v=.bool true/\St c (wb c w (aU KT)) J F [aj,ap] (fA [.dj,.list 63 ps.reverse]) M)
theorem Y_(e:Nd n m o=true):m=.bool true/\o.t.get 0=some .dj/\∃b,o.t.get 1=some (.list b (toks n).reverse):=by
 have e:=aN.mp e
 have e1:=aN.mp e.1
 refine ay (nH e1.2) λE h I=>?_
 refine ay (nH e.2) λp h1 c1=>?_
 exact⟨iK e1.1,h.trans (cq some (MC I)),p.1,by rw [eu c1];exact sY h1⟩
theorem Bu(k num:H)(aG:G (H×ah))(m:H):(cY k num aG m).length=aG.length+m:=by unfold cY;rw [fy,cZ,dZ]
theorem Cb(aG:G (H×ah)):(bD aG).length=aG.length:=by unfold bD;rw [cZ]
theorem afC(W:gA t ws=true):yW (mq u ws) t ws=true:=by
 unfold gA at W
 unfold mq
 generalize vD ws=ax at W
 cases ax with
 |true=>exact W
 |false=>
  have W:=aN.mp W
  cases u with
  |zero=>exact W.1
  |succ=>exact W.2
theorem afD(ws:G H)(h:aJ 27=some (cC u)):Cv aQ aJ o β FZ (cC u) (PC (mq u ws)):=by
 have tok:Cv aQ aJ o β FZ (cC u) (.tok 27):=.eT (o5 u) (B3 u) h
 unfold mq
 cases vD ws with
 |true=>exact tok
 |false=>cases u with
  |zero=>exact .same rfl
  |succ=>exact tok
theorem afN(aV:Base c w K cz J mg mb)(h:bD aG∈dq){k u num:H}(hk:k<4)(hu:u<3)(hn:num∈[1,2,3])(hp:∀aL,qD c (wb c w aL) J 595):
  JS c w J aH 230 [.ref 0,.tok 0,gJ (bD aG),.ref 1,cC u,.bool t,dk (cC u) (cD (c_ (bD aG) t))] (cY k num aG 0):=by
 intro Y F aj ap s V room S y Q au q
 have hw:∀wd∈aG,wd.1∈six:=λwd m=>lW h _ (cF.mpr ⟨wd,m,rfl⟩)
 have nL:=vK hk hn hw (ik:=0)
 have lp:=Bu k num aG 0
 rw [CG] at lp
 have l3:=r4 h
 rw [Cb] at l3
 have E3:cR (dk (cC u) (cD (c_ (bD aG) t)))=true:=by
  unfold cR
  have e1:=o5 u
  have e2:=Ih h t
  rw [<-fB] at e1 e2⊢
  refine(?_:((bE rl&&(bE nQ&&(bE rn&&(bE (cC u)&&((bE rl&&(bE lS&&(bE rn&&(bE kO&&(bE (c_ (bD aG) t)&&true)))))&&true)))))&&true)=true)
  rw [e1,e2];rfl
 refine xA (aN.mp E3) λA0 xX=>?_
 have ht:∀i,mM u (dk (cC u) (cD (c_ (bD aG) t))) (cY k num aG 0) (50+i)=(cY k num aG 0)[i]?:=λi=>aeF
 generalize Xl:dk (cC u) (cD (c_ (bD aG) t))=d_ at*
 have DH:cE (aU aH) (mM u d_ (cY k num aG 0)) (cY k num aG 0).reverse (toks aG.length).reverse:=λo β FZ=>by
  have:=(DS (aQ:=aU aH) (aJ:=mM u d_ (cY k num aG 0)) (ps:=cY k num aG 0) (λi _=>ht i) (λm hm=>b7 uq m (nL m hm)) o β FZ).reverse .nil
  rw [h_,h_,lp] at this
  exact this
 have DN:cE (mM u d_ (cY k num aG 0)) (aU aH) (toks aG.length).reverse (cY k num aG 0).reverse:=λo β FZ=>by
  have:=(z6 (aQ:=mM u d_ (cY k num aG 0)) (aJ:=aU aH) (ps:=cY k num aG 0) (λi _=>ht i) o β FZ).reverse .nil
  rw [h_,h_,lp] at this
  exact this
 have lt:(toks aG.length).reverse.length<=63:=by unfold toks;rw [ez,cZ,wB];exact dQ l3 (by decide)
 have lq:(cY k num aG 0).reverse.length<=63:=by rw [ez,lp];exact dQ l3 (by decide)
 have S':=Im (aJ:=mM u d_ (cY k num aG 0)) (F2:=F) S (i:=1) rfl rfl (by decide) rfl rfl DH lt (by decide) (λa ha=>.inl ha)
 have pj:iF c (wb c w (mM u d_ (cY k num aG 0))) J (WW (mq u (bD aG)) t (bD aG)):=by
  refine vI (λp gU o=>?_) (λd hd=>nomatch hd)
  refine ay (cF.mp gU) λL hL aE=>?_;rw [<-aE]
  refine ay (aa7 (aL:=mM u d_ (cY k num aG 0)) aV h hk hu hn (λi _=>ht i) hL) λL' I gL=>?_
  rw [Xl] at gL
  exact rh (aaz (a:=382) gL) (eU (λ_ _ _=>.cons (.gZ rfl rfl) .nil) (eU (kj (eU (et rfl) (eU (kj I) (et rfl)))) (iG rfl))) (et rfl)
 have ev:=afC (u:=u) (afO (t:=t) h)
 have gq:=aV.sound (aL:=mM u d_ (cY k num aG 0)) oM (U5 aV (ws:=bD aG) rfl rfl) pj (.inr (hp _)) zH 230
 have y':=cG.ok (aJ:=mM u d_ (cY k num aG 0)) (F2:=F) (bf:=[aj,ap]) S (β:=some) (FZ:=λ_=>dP) (λi j a e x=>aM e▸x) (λa E _ sf=>sf) (λ_ _ z=>z.elim) (.cons (.ref rfl) (.cons (.gZ (i:=0) (j:=0) rfl rfl) (.cons (.same (we _)) (.cons (.ref rfl) (.cons (afD (bD aG) rfl) (.cons (.same rfl) (.cons (.eT (j:=40) A0 xX rfl) .nil))))))) y
 unfold yW at ev
 rw [Cb] at ev
 refine gq.call Y F [aj,ap] s _ (.fn 654) (.ref 654) _ V _ room S' (by rfl) y' ev _ _ λv bq h1 aZ aS p1=>?_
 refine PV.el p1 λm bM e1 S1 x1=>?_
 refine cf (Y_ e1) λeJ g0 bB=>bw bB λb1 g1=>?_;subst eJ
 have a0:bq[0]?=some aj:=by rw [ja aS.pre (by simp)];rfl
 have a1:bq[1]?=some ap:=by rw [ja aS.pre (by simp)];rfl
 exact q v bq h1 aZ aS ⟨x1,Im (F2:=F) S1 a0 a1 (by decide) g0 g1 DN lq (by decide) (λa ha=>.inl ha)⟩
end
section
set_option tactic.hygienic true
noncomputable def iY(u:H)(t:ah)(k num:H)(d_:D)(ps ws:G D)(i:H):aa D:=if 60<=i then ws[i-60]? else if 50<=i then ps[i-50]? else lY u t k num d_ i
theorem Ve(t:aa D)(E:aa H):∃ks,sr t E=.aD (.dict ks) ((su t E).map (·.2))/\(su t E).map (·.1)=ks.map D.str:=by
 cases t<;>cases E<;>exact⟨_,rfl,rfl⟩
theorem MK(e:Fs n v=true):v=.aD (.list 63) (tQ n):=by
 refine ay (Mz e) λB aI e=>?_;rw [aI]
 rw [eu e]
section
variable{c:a_}{w:dF}{J:aP}{K:b8}{mg mb:ar->aa aw}{Y:bG}{F F2 C:G aA}{s:aT}{h M:aP}{o:MH}{aL aQ aJ:H->aa D}{eC a:H}{aj ap:aA}
theorem ady(e:OE n o v=true):∃i b,v=.ref i/\i≠0/\o.t.get i=some (.list b (toks n).reverse):=by
 refine ay (nH e) λr h e=>?_
 refine eO (Ew h) λi b h1 h2 h3=>?_
 exact⟨i,b,aM h1,wI h2,by rw [eu e];exact h3⟩
theorem aeO(e:three f B=true):∃x y z,B=[x,y,z]/\f x y z=true:=by
 rcases B with _|⟨x,_|⟨y,_|⟨z,_|⟨u,r⟩⟩⟩⟩<;>first|exact bz e|exact⟨x,y,z,rfl,e⟩
theorem adg(e:BJ f B=true):∃x1 x2 x3 x4 x5 x6 x7,B=[x1,x2,x3,x4,x5,x6,x7]/\f x1 x2 x3 x4 x5 x6 x7=true:=by
 rcases B with _|⟨x1,_|⟨x2,_|⟨x3,_|⟨x4,_|⟨x5,_|⟨x6,_|⟨x7,_|⟨u,r⟩⟩⟩⟩⟩⟩⟩⟩<;>first|exact bz e|exact⟨x1,x2,x3,x4,x5,x6,x7,rfl,e⟩
theorem X7(e:MB o v=true):v=.ref 0/\o.t.get 0=some .dj:=by
 refine xA (AS e) λe1 e2=>?_
 exact⟨aM e1,e2⟩
theorem afM(W:JS c w J aH eC [.ref 0,m2,m3,.ref 1,m5,m6,m7] ps)(g0:o.t.get 0=some .dj)(hi:i≠0)(g1:o.t.get i=some (.list b (toks n).reverse))(DH:cE aL (aU aH) (toks n).reverse ps.reverse)(DN:cE (aU aH) aL ps.reverse (toks n).reverse)(lp:ps.length<=63)
  (c2:cE aL (aU aH) [Zi] [m2]) (c3:cE aL (aU aH) [Zj] [m3]) (c5:cE aL (aU aH) [Zl] [m5]) (c6:cE aL (aU aH) [Zm] [m6]) (c7:cE aL (aU aH) [Zn] [m7]):nV c (wb c w aL) J eC 654 [.ref 0,Zi,Zj,.ref i,Zl,Zm,Zn] o (.bool true) o:=by
 intro Y F C s V room S y Q au q
 have y':=y
 replace y:=y.cj;obtain⟨v1,r,rfl,y1,y⟩:=y
 replace y:=y.cj;obtain⟨v2,r,rfl,y2,y⟩:=y
 replace y:=y.cj;obtain⟨v3,r,rfl,y3,y⟩:=y
 replace y:=y.cj;obtain⟨v4,r,rfl,y4,y⟩:=y
 refine ay y1 ?_;clear y1;intro aj e0 aE;skip
 refine ay y4 ?_;clear y4;intro ap e1 aE;skip
 have ne:aj≠ap:=λz=>hi (qe S.apart e1 (z▸e0))
 have dG:∀I,I∈F++C.filter (λI=>!(I==aj)&&!(I==ap))↔I∈F\/(I∈C/\I≠aj/\I≠ap):=λI=>by
  rw [dI,t7]
  simp
 generalize F++C.filter (λI=>!(I==aj)&&!(I==ap))=F2 at dG
 have h2:∀I∈[aj,ap],I∈C:=λI hc=>by
  simp only [bY,eP,gH] at hc
  rcases hc with rfl|rfl
  .exact dy e0
  .exact dy e1
 have SK:=Im (aJ:=aU aH) (F2:=F2) S e0 e1 hi g0 g1 DH (by rw [ez];exact lp) (by decide:63<=4096) (λI hc=>(dG I).mp hc)
 have ji:∀(j k:H) (I:aA),(λj=>if j=0 then some 0 else if j=i then some 1 else none) j=some k->C[j]?=some I->[aj,ap][k]?=some I:=λj k I ek ec=>by
  dsimp only at ek
  split at ek
  .rename_i z;cases ek;rw [z,e0] at ec;exact ec
  .split at ek
   .rename_i z;cases ek;rw [z,e1] at ec;exact ec
   .nomatch ek
 have yK:=cG.ok (aJ:=aU aH) (F2:=F2) (bf:=[aj,ap]) S (β:=λj=>if j=0 then some 0 else if j=i then some 1 else none) (FZ:=λ_=>dP) ji (λI E _ sf=>⟨λz=>((dG I).mp z).elim sf.1 λz=>sf.2 z.1,λz=>sf.2 (h2 I z)⟩) (λ_ _ z=>z.elim) (.cons (.ref rfl) (.cons (c2.one _ _ _) (.cons (c3.one _ _ _) (.cons (.ref (by rw [bk hi,bT rfl])) (.cons (c5.one _ _ _) (.cons (c6.one _ _ _) (.cons (c7.one _ _ _) .nil))))))) y'
 refine W Y F2 aj ap s _ room SK yK _ _ λv bq h1 aZ aS p1=>?_
 refine xA p1 ?_;clear p1;intro eJ S1;subst eJ
 have tG:bh [] [aj,ap] s.heap [aj,ap] h1:=bh.cut aS (λI hc=>aS.pre.subset hc) (mT _)
 have Ls:C++[]=C:=h_ C
 refine eK (S.ref e1 g1) λag_ nn _ _ YQ YR=>?_
 have fr:=S.frame (e:=[]) (q6:=o) tG S1 rfl h2 (λI hc=>(dG I).mpr (.inl hc)) (λI hc hn=>(dG I).mpr (.inr ⟨hc,λz=>hn (by rw [z];exact .head _),λz=>hn (by rw [z];exact .tail _ (.head _))⟩)) rfl (β:=λ_=>.none) (λj k I eb _=>nomatch eb) (λj I ej=>by
  rw [Ls] at ej
  by_cases z:I=aj
  .obtain rfl:=z.symm
   have:=qe S.apart ej e0
   rw [this]
   exact .inr ⟨0,_,_,rfl,rfl,g0,.dj⟩
  .by_cases z2:I=ap
   .obtain rfl:=z2.symm
    have:=qe S.apart ej e1
    rw [this]
    exact .inr ⟨1,_,_,rfl,rfl,g1,.list (DN _ _ _) YQ YR⟩
   .refine .inl ⟨ej,λq=>?_,rfl⟩
    simp only [bY,eP,gH] at q
    exact q.elim z z2)
 rw [Ls] at fr
 exact q _ C h1 aZ fr.1 ⟨fr.2,by rfl⟩
theorem kW{k num:H}(h:i<50):iY u t k num d_ ps ws i=lY u t k num d_ i:=by
 unfold iY
 rw [bk (by lia),bk (by lia)]
theorem HW{k num:H}(h:i<10):iY u t k num d_ ps ws (50+i)=ps[i]?:=by
 unfold iY
 rw [bk (by lia),bT (by lia),jO]
theorem HX{k num:H}:iY u t k num d_ ps ws (60+i)=ws[i]?:=by
 unfold iY
 rw [bT (by lia),jO]
theorem abh(aV:Base c w K cz J mg mb)(h:bD aG∈dq){k u num m:H}(hk:k<4)(hu:u<3)(hn:num∈[1,2,3])(hf:(aG.length+m,aG.length,t)∈fits)(hp:∀aL,qD c (wb c w aL) J 595):
  iF c (wb c w (iY u t k num (dk (cC u) (cD (c_ (bD aG) t))) (cY k num aG m) (fs (bD aG)))) J (WD aG.length m (su (oZ k (bD aG)) (oO num (bD aG)))):=by
 intro a args o q e
 have lp:=Bu k num aG m
 have mA:aG.length<=3/\m<=2:=by
  have:∀q∈fits,q.2.1<=3/\q.1<=q.2.1+2:=by decide
  have:=this _ hf
  dsimp only at this
  lia
 have lw:=Cb aG
 refine ay (Ve (oZ k (bD aG)) (oO num (bD aG))) λks d1 d2=>?_
 have uD:(aG.any λwd=>i7 wd.1)=(bD aG).any i7:=by unfold bD;rw [Cp];rfl
 have pJ:(aG.any λwd=>fH wd.1)=(bD aG).any fH:=by unfold bD;rw [Cp];rfl
 have e2:jK num aG .none=oO num (bD aG):=by unfold jK oO bD;rw [Cp];rfl
 have cw:∀{tb:H->aa D},(∀i,tb (60+i)=(fs (bD aG))[i]?)->cE tb (aU aH) [.aD (.list 63) (tQ aG.length)] [gJ (bD aG)]:=λ{tb} ht o β FZ=>by
  have:=qI (aQ:=tb) (aJ:=aU aH) (o:=o) (β:=β) (FZ:=FZ) (f:=λi=>D.tok (60+i)) (g:=λi=>(fs (bD aG)).getD i .none) (B:=fZ (fs (bD aG)).length) λi hi=>by
   have hi:=md.mp hi
   exact .fe (by rw [ht i,cV hi];simp [qA,hi])
  rw [map_getD] at this
  have l1:(fs (bD aG)).length=aG.length:=by unfold fs;rw [cZ,lw]
  rw [l1] at this
  exact .cons (.aD this) .nil
 have P:=ZI aV hk hu hn (aG:=aG) h (t:=t) (ik:=m) hf
 have W:=afN aV h hk hu hn (t:=t) hp (aG:=aG)
 have bj:=Ux aV h hk (num:=num)
 rw [uD,pJ,e2] at P
 have P:ui c w J aH 180 382 [.tok 0,oneOf (cY k num aG m),dk (cC u) (cD (c_ (bD aG) t))] (sr (oZ k (bD aG)) (oO num (bD aG))):=P
 rw [d1] at P bj
 generalize dk (cC u) (cD (c_ (bD aG) t))=d_ at*
 have e:GV aG.length m (su (oZ k (bD aG)) (oO num (bD aG))) a args o=some q:=e
 unfold GV at e
 generalize h1:bA a 382=ax at e
 cases ax with
 |true=>
  rw [dU h1]
  refine xA (uY e) λh2 e=>?_
  refine xA (jA e) λI aI=>?_;rw [<-aI]
  rw [<-eu h2]
  refine NA P d2 (eU (λ_ _ _=>.cons (.gZ (kW (by decide)) rfl) .nil) (eU (kj (eU (et rfl) (eU (kj λo β FZ=>?_) (et rfl)))) (iG (kW (by decide))))) I
  have:=z6 (aQ:=iY u t k num d_ (cY k num aG m) (fs (bD aG))) (aJ:=aU aH) (ps:=cY k num aG m) (λi hi=>HW (by lia)) o β FZ
  rw [lp] at this
  exact this
 |false=>
  dsimp only at e
  generalize h2:bA a 642=ax at e
  cases ax with
  |true=>
   rw [dU h2]
   refine xA (uY e) λI e=>?_
   refine xA (jA e) λc0 aI=>?_;rw [<-aI]
   refine dO (aeO I) λx y z bU d=>?_;rw [bU]
   rw [MK (bx (bx d)),lF (bL (bx d)),lF (bL d)]
   exact NA bj d2 (eU (cw λi=>HX) (eU (iG (kW (by decide))) (iG (kW (by decide))))) c0
  |false=>
   refine xA (uY e) λI e=>?_
   rw [dU (bx I)]
   have e:=aM e
   rw [<-e]
   refine gK (adg (bL I)) λx1 x2 bB=>gK bB λx3 x4 dA=>dO dA λx5 x6 x7 Hq d=>?_;rw [Hq]
   have c6:=bx d
   have c5:=bx c6
   have c4:=bx c5
   have c3:=bx c4
   have c2:=bx c3
   refine xA (X7 (bx c2)) λeJ g0=>?_;rw [eJ]
   refine eO (ady (bL c4)) λi b aE hi g1=>?_;rw [aE]
   rw [xT (bL c2),MK (bL c3),lF (bL c5),lF (bL c6),lF (bL d)]
   have nL:=vK hk hn (λwd m=>lW h _ (cF.mpr ⟨wd,m,rfl⟩)) (ik:=0) (aG:=aG)
   have F9:=Bu k num aG 0
   have Oc:∀i,i<(cY k num aG 0).length->iY u t k num d_ (cY k num aG m) (fs (bD aG)) (50+i)=(cY k num aG 0)[i]?:=λi hi=>by
    rw [HW (by lia)]
    unfold cY at hi⊢
    rw [fy,cZ] at hi
    have hi:i<aG.length+0:=hi
    rw [iD (by rw [cZ];assumption),iD (by rw [cZ];assumption)]
   refine afM W g0 hi g1 (λo β FZ=>?_) (λo β FZ=>?_) (by rw [F9];lia) (λ_ _ _=>.cons (.gZ (kW (by decide)) rfl) .nil) (cw λi=>HX) (iG (kW (by decide))) (iG (kW (by decide))) (iG (kW (by decide)))
   .have:=(z6 (aQ:=iY u t k num d_ (cY k num aG m) (fs (bD aG))) (aJ:=aU aH) (ps:=cY k num aG 0) Oc o β FZ).reverse .nil
    rw [h_,h_,F9] at this
    exact this
   .have:=(DS (aQ:=aU aH) (aJ:=iY u t k num d_ (cY k num aG m) (fs (bD aG))) (ps:=cY k num aG 0) Oc (λm hm=>b7 uq m (nL m hm)) o β FZ).reverse .nil
    rw [h_,h_,F9] at this
    exact this
end
end
noncomputable def WJ:bQ:=gp cz (λ_ _ _=>.none) (λ_=>.none) (λ_ _=>.none) 0
noncomputable def Nc(m:D)(o:MH):aa D:=match m with
 |.ref i=>eQ (jj o i) λq=>some (.tup q.2)
 |_=>.none
noncomputable def xU(B:G D):aa D:=(run ip WJ 60).call (.fn 588) [.aD (.list 63) B] ⟨.nil,0⟩ Nc
noncomputable def F5(m:D)(o:MH):aa D:=match jj o 0 with
 |some q=>some (.tup [m,.tup q.2])
 |.none=>.none
noncomputable def Bv(x y n:ba):aa D:=(run ip WJ 20).call (.fn 595) [.ref 0,.int n] (fA [.list 2 [.int y,.int x]]) F5
noncomputable def AW(x:ba):D:=.int (o9 x 999999937+57)
noncomputable def Of(x y n:ba):aa D:=match x with
 |.ofNat 0=>some (.tup [.int (o9 (I8 (o9 (y*48271+4241) 2147483647) 23) n),.tup [.int (o9 (y*48271+4241) 2147483647),.int (.ofNat 0)]])
 |x=>some (.tup [.int (o9 x n),.tup [.int y,.int (I8 x n)]])
noncomputable def MV:aa D:=(run ip WJ 300).call (.fn 567) [] ⟨.nil,0⟩ λv o=>some (kF o 20 v)
theorem Yc:xU []=some (.tup [.int 57,.int 0]):=by kernel_rfl
theorem Yd(m:H):(fZ 63).map (λn=>xU (.int (.ofNat m)::dh n .any))=(fZ 63).map (λn=>@bN (λ_=>aa D) (some (.tup [AW (.ofNat m),.int 0])) (some (.tup [AW (.ofNat m),.int (.ofNat m)])) (!(ltZ (.ofNat m) 1000000000000000000))):=by kernel_rfl
theorem Yb(m:H):(fZ 63).map (λn=>xU (.int (.negSucc m)::dh n .any))=(fZ 63).map (λn=>@bN (λ_=>aa D) (some (.tup [AW (1-.negSucc m),.int 0])) (some (.tup [AW (1-.negSucc m),.int (1-.negSucc m)])) (!(ltZ (1-.negSucc m) 1000000000000000000))):=by kernel_rfl
theorem acb(y:ba):[1,2,3,4,5,6,7].map (λn=>Bv (.ofNat 0) y n)=[1,2,3,4,5,6,7].map (λn=>Of (.ofNat 0) y n):=by kernel_rfl
theorem acd(x:H)(y:ba):[1,2,3,4,5,6,7].map (λn=>Bv (.ofNat (cX x)) y n)=[1,2,3,4,5,6,7].map (λn=>Of (.ofNat (cX x)) y n):=by kernel_rfl
theorem kinds_ok:MV=some aH:=by kernel_rfl
noncomputable def yn(k:FK)(n:H):ah:=match k with
 |.list _=>true
 |.dict ks=>bA ks.length n&&dB 0 n
 |.inst _ ks=>bA ks.length n&&dB 0 n
noncomputable def jo(m:D):ah:=@D.rec (λ_=>ah) (λ_=>ah) true (λ_=>true) (λ_=>true) (λ_=>true) (λ_ x=>x) (λ_=>true) (λ_=>true) (λ_=>true) (λ_=>true) (λk B x=>yn k B.length&&x) true (λ_=>true) true (λ_ _ x y=>x&&y) m
theorem NY(B:G D):@D.rec_1 (λ_=>ah) (λ_=>ah) true (λ_=>true) (λ_=>true) (λ_=>true) (λ_ x=>x) (λ_=>true) (λ_=>true) (λ_=>true) (λ_=>true) (λk B x=>yn k B.length&&x) true (λ_=>true) true (λ_ _ x y=>x&&y) B=allB jo B:=by
 induction B with
 |nil=>rfl
 |cons a B O=>show(jo a&&_)=(jo a&&allB jo B);rw [<-O]
theorem aa1(B:G D):jo (.tup B)=allB jo B:=NY B
theorem NX(k:FK)(B:G D):jo (.aD k B)=(yn k B.length&&allB jo B):=by
 refine(?_:(yn k B.length&&_)=_)
 rw [<-NY B]
theorem Yu:(bE aH&&jo aH&&cJ (handed aH))=true:=by kernel_rfl
section
variable{c:a_}{w:dF}{J:aP}{K:b8}{mg mb:ar->aa aw}{Y:bG}{F F2 C:G aA}{s:aT}{h M:aP}{o:MH}{aL aQ aJ:H->aa D}{eC a:H}{aj ap:aA}
theorem af7{α β:Type}(f:α->β)(g:β->ah)(B:G α):allB g (B.map f)=allB (λx=>g (f x)) B:=by
 induction B with
 |nil=>rfl
 |cons a B O=>show(g (f a)&&allB g (B.map f))=_;rw [O];rfl
theorem Yq(R:G (D×D)):(hJ R).length<=R.length:=by
 induction R with
 |nil=>exact fG _
 |cons p R O=>
  obtain⟨k,v⟩:=p
  cases k with
  |str x=>exact n4 O
  |_=>exact Nat.le_succ_of_le O
theorem Yp(e:(hJ R).length=R.length):R.map (·.1)=(hJ R).map D.str:=by
 induction R with
 |nil=>rfl
 |cons p R O=>
  obtain⟨k,v⟩:=p
  have no:(hJ R).length≠R.length+1:=rU (rT (Yq R))
  cases k with
  |str x=>exact cq _ (O (lu e))
  |_=>exact bP e no
noncomputable def Aj(o:MH)(f:D->D)(E:aa cL):D:=match E with
 |some E=>match E with
  |.list b r=>.aD (.list b) (mapA f (rv r))
  |.dict R=>.aD (.dict (hJ R)) (mapA (λp=>f p.2) R)
  |.inst aq d=>match o.t.get d with
   |some E=>match E with
    |.dict R=>.aD (.inst aq (hJ R)) (mapA (λp=>f p.2) R)
    |_=>.any
   |.none=>.any
  |.dj=>.any
 |.none=>.any
theorem Ex{w w':WB}(q:∀{m:D} {v:aw},bE (f m)=true->jo (f m)=true->VR c w F C h m v->VR c w' F [] h (f m) v):∀{V:G aw},allB bE (mapA f B)=true->allB jo (mapA f B)=true->aW c w F C h B V->aW c w' F [] h (mapA f B) V:=by
 induction B with
 |nil=>exact λ_ _ y=>y.dW▸.nil
 |cons a B O=>
  intro V k1 k2 y
  refine dR.el y.cj λv r aE y1 y2=>?_;rw [aE]
  have k1:=aN.mp k1
  have k2:=aN.mp k2
  exact .cons (q k1.1 k2.1 y1) (O k1.2 k2.2 y2)
theorem Gd(f:D->D)(R:G (D×D)):mapA (λp=>f p.2) R=mapA f (R.map (·.2)):=by
 rw [pY,pY,zk];rfl
theorem LJ{f:D->D}(q:∀{m:D} {v:aw},bE (f m)=true->jo (f m)=true->VR c (wb c w aL) F C h m v->VR c (w0 w) F [] h (f m) v)(hk:∀n,yn k n=(bA (hJ R).length n&&dB 0 n))(e1:bE (.aD k (mapA (λp=>f p.2) R))=true)(e2:jo (.aD k (mapA (λp=>f p.2) R))=true)(E:OR c (wb c w aL) F C h d (.dict R)):
  ∃V,h.DictOf (strKind c w) d ((hJ R).zip V)/\(hJ R).length=(mapA (λp=>f p.2) R).length/\aW c (w0 w) F [] h (mapA (λp=>f p.2) R) V:=by
 rw [s9,Gd] at e1
 rw [NX,hk,Gd] at e2
 rw [Gd]
 refine xA (aN.mp e2) λe3 e2=>?_
 have e3:=aN.mp e3
 have hl:(mapA f (R.map (·.2))).length=R.length:=by rw [pY,cZ,cZ]
 have e4:=dU e3.1
 cases R with
 |nil=>exact bz e3.2
 |cons p R=>
  refine fM (OV E (Yp (e4.trans hl))) λV d1 d2 d3=>?_
  exact⟨V,d1,e4,Ex q e1 e2 d3⟩
theorem V6(S:St c (wb c w aL) J F C o h)(sys:∃E,J.get? tK=some E)(n:H){m:D}(e1:bE (kF o n m)=true)(e2:jo (kF o n m)=true)(x:VR c (wb c w aL) F C h m v):VR c (w0 w) F [] h (kF o n m) v:=by
 have hs:∀a E,h.get? a=some E->cM F C a->cM F [] a:=λa E _ sf=>⟨sf.1,eP⟩
 have sP:∀{i:H} {a:aA},C[i]?=some a->cM F [] a:=λe=>⟨λz=>(S.cI _ z).2.1 (dy e),eP⟩
 have YU:∀{m:D} {v:aw},bE m=true->VR c (wb c w aL) F C h m v->VR c (w0 w) F [] h m v:=λe x=>x.plain (w:=wb c w aL) (w':=w0 w) hs rfl (fB _▸e)
 induction n generalizing m v with
 |zero=>trivial
 |succ n O=>
  cases m with
  |tup B=>
   have e1:bE (.tup (mapA (kF o n) B))=true:=e1
   have e2:jo (.tup (mapA (kF o n) B))=true:=e2
   rw [nG] at e1
   rw [aa1] at e2
   refine gr.el x.gj λa V k e f g y=>?_
   exact⟨a,V,k,e,hs _ _ g f,g,Ex O e1 e2 y⟩
  |ref i=>
   refine ay x ?_;clear x;intro a ea aE;subst aE
   refine ay (S.at_ i a ea) λE ho ob=>?_
   have e1:bE (Aj o (kF o n) (o.t.get i))=true:=e1
   have e2:jo (Aj o (kF o n) (o.t.get i))=true:=e2
   refine(?_:VR c (w0 w) F [] h (Aj o (kF o n) (o.t.get i)) (.ref a))
   rw [ho] at e1 e2⊢
   clear ho
   cases E with
   |dj=>trivial
   |list b r=>
    have e1:bE (.aD (.list b) (mapA (kF o n) (rv r)))=true:=e1
    have e2:jo (.aD (.list b) (mapA (kF o n) (rv r)))=true:=e2
    rw [s9] at e1
    rw [NX] at e2
    refine eK ob λV k g y l1 l2=>?_
    have z:=y.reverse
    rw [mU,<-fD] at z
    exact⟨a,V,k,rfl,sP ea,g,by rw [pY,cZ,fD,ez];exact l1,l2,Ex O e1 (aN.mp e2).2 z⟩
   |dict R=>
    refine fM (LJ (k:=.dict (hJ R)) O (λ_=>rfl) e1 e2 ob) λV d1 d2 d3=>?_
    refine⟨a,V,rfl,sP ea,?_,d1,d2,d3⟩
    cases I:a==tK with
    |false=>rfl
    |true=>
     refine bw sys λE Xp=>?_
     exact bP (dy ea) (pI I▸(S.keep _ _ Xp).2)
   |inst aq d=>
    refine ay ob λdx ed g=>?_
    refine ay (S.at_ d dx ed) λo2 nA aaW=>?_
    have un:Aj o (kF o n) (some (.inst aq d))=(match o.t.get d with
     |some E=>match E with
      |.dict R=>.aD (.inst aq (hJ R)) (mapA (λp=>kF o n p.2) R)
      |_=>.any
     |.none=>.any):=rfl
    rw [un,nA] at e1 e2⊢
    cases o2 with
    |dict R=>
     refine fM (LJ (k:=.inst aq (hJ R)) O (λ_=>rfl) e1 e2 aaW) λV d1 d2 d3=>?_
     exact⟨a,dx,V,rfl,sP ea,sP ed,g,d1,d2,d3⟩
    |_=>trivial
  |_=>exact YU e1 x
theorem Yt(aV:Base c w K cz J mg mb)(t0:aL 0=some aH):nV c (wb c w aL) J 300 567 [] o (.tok 0) o:=by
 intro Y F C s V room S y Q au q
 have dG:∀a∈F++C,a∈F\/a∈C:=λa ha=>dI.mp ha
 have SK:=S.bare dG (λ_=>none)
 have gq:=aV.sound (aL:=λ_=>none) (gX:=λ_ _ _=>.none) (tv:=λ_=>.none) (eq:=λ_ _=>.none) (pull:=0) oM hN lM (.inl jD) (mj aH) 300
 have ev:=kinds_ok
 unfold MV at ev
 refine xA (aN.mp Yu) λkt k3=>?_
 refine xA (aN.mp kt) λk1 k2=>?_
 rw [y.dW]
 refine gq.call Y (F++C) [] s ⟨.nil,0⟩ (.fn 567) (.ref 567) [] [] _ room SK (by rfl) .nil ev _ _ λv bq h1 aZ aS p1=>?_
 refine PV.el p1 λm bM e1 S1 x1=>?_
 have e1:kF bM 20 m=aH:=aM e1
 have z:=V6 S1 aV.sys 20 (m:=m) (by rw [e1];exact k1) (by rw [e1];exact k2) x1
 rw [e1] at z
 have keep:∀b E,s.heap.get? b=some E->h1.get? b=some E:=λb E e=>aS.keep b E e (λz=>nomatch z) (λz=>nomatch z)
 refine xA (S.grow keep) λst S2=>?_
 have pk:bC aH=true:=by rw [<-fB];exact k1
 refine q v C h1 aZ st ⟨S2,?_⟩
 exact⟨aH,t0,pk,k3,z.plain (w:=w0 w) (w':=w0 w) (λb E _ sf=>⟨λz=>sf.1 (iR _ z),λz=>sf.1 (fC _ z)⟩) rfl pk⟩
theorem VG(aV:Base c w K cz J mg mb):mh c w J aH 250 649 [.tok 0] (.bool true):=by
 have e:=VF
 unfold jW jX at e
 exact Hh (aL:=aU aH) (aV.sound (kY rfl) hN lM (.inl jD) (mj _) 250) e (λ_ _ _=>.cons (.gZ (i:=0) (j:=0) rfl rfl) .nil) (et rfl)
end
section
variable{c:a_}{w:dF}{J:aP}{K:b8}{mg mb:ar->aa aw}{Y:bG}{F F2 C:G aA}{s:aT}{h M:aP}{o:MH}{aL aQ aJ:H->aa D}{eC:H}{a aj ap:aA}
theorem uL(hn:0<n):0<=o9 z n/\o9 z n<n:=by
 rw [Int.fmod_eq_emod_of_nonneg z (rI hn)]
 exact⟨Int.emod_nonneg z (by lia),Int.emod_lt_of_pos z hn⟩
theorem St.Yf(S:St c (wb c w aL) J F C o h)(ej:C[j]?=some a)(hj:o.t.get j=some .dj)(keep:∀b E,h.get? b=some E->b≠a->M.get? b=some E)(ob:OR c (wb c w aL) F C M a .dj):bh [] C h C M/\St c (wb c w aL) J F C o M:=by
 have ma:=dy ej
 refine⟨⟨mT _,λb E e n _=>keep b E e λq=>n (q▸ma),λb E e n=>⟨⟨E,keep b E e λq=>n (q▸ma)⟩,n⟩⟩,⟨λb E e=>⟨keep b E (S.keep b E e).1 λq=>(S.keep b E e).2 (q▸ma),(S.keep b E e).2⟩,S.len,S.apart,λb hb=>?_,λi b e=>?_⟩⟩
 .obtain⟨⟨E,ho⟩,q2,q3⟩:=S.cI b hb
  exact⟨⟨E,keep b E ho λq=>q2 (q▸ma)⟩,q2,q3⟩
 .by_cases z:b=a
  .obtain rfl:=z.symm
   have:=qe S.apart e ej
   subst this
   exact⟨_,hj,ob⟩
  .refine ay (S.at_ i b e) λE ho x=>?_
   refine bw x.some λox Mh=>?_
   exact⟨E,ho,tj (λI oc e sf=>⟨keep I oc e λq=>sf.2 (q▸ma),sf⟩) (λ_ _ e=>e) ((keep b ox Mh z).trans Mh.symm) x⟩
theorem Pn(g:h.get? a=some (fT V n))(z:aW c (wb c w aL) F C h [.int y,.int x] V.toList.reverse):∃t u,h.get? a=some (fT #[.int x t,.int y u] n):=by
 replace z:=z.cj;obtain⟨v1,r,e1,y1,z⟩:=z
 replace z:=z.cj;obtain⟨v2,r2,e2,y2,z⟩:=z
 have e3:=z.dW
 refine bw y1 ?_;clear y1;intro u aI;subst aI
 refine bw y2 ?_;clear y2;intro t aI;subst aI
 have:V.toList=[.int x t,.int y u]:=by
  rw [<-mU V.toList,e1,e2,e3];rfl
 have:V=#[.int x t,.int y u]:=Array.toList_inj.mp this
 rw [this] at g
 exact⟨t,u,g⟩
theorem Y9(e:F5 m o=some (.tup [d,.tup B])):m=d/\∃b,o.t.get 0=some (.list b B):=by
 unfold F5 at e
 generalize h1:jj o 0=ax at e
 cases ax with
 |none=>nomatch e
 |some q=>
  have e:=aM e
  injection e with e
  injection e with e1 e
  injection e with e2 _
  injection e2 with e2
  exact⟨e1,q.1,e2▸sY h1⟩
theorem agN(h0:0<n)(h8:n<8):n∈[1,2,3,4,5,6,7]:=(by decide:∀n,n<8->0<n->n∈[1,2,3,4,5,6,7]) n h8 h0
theorem acf(hy:0<=y)(E7:y<4294967296)(h0:0<n)(h8:n<8):∃d x' y',Bv (.ofNat x) y (.ofNat n)=some (.tup [.int d,.tup [.int y',.int x']])/\0<=d/\d<(n:ba)/\0<=x'/\0<=y'/\y'<4294967296:=by
 have hn:(0:ba)<(n:ba):=Ja.mpr h0
 have Pd:∀{f g:ba->aa D},[1,2,3,4,5,6,7].map f=[1,2,3,4,5,6,7].map g->f (tW n)=g (tW n):=λe=>fU e _ ((by decide:∀n,n<8->0<n->tW n∈[1,2,3,4,5,6,7]) n h8 h0)
 cases x with
 |zero=>
  have z:=uL (z:=y*48271+4241) (n:=2147483647) (by decide)
  refine⟨_,_,_,Pd (acb y),(uL hn).1,(uL hn).2,by decide,z.1,rJ z.2 (by decide)⟩
 |succ x=>exact⟨_,_,_,Pd (acd x y),(uL hn).1,(uL hn).2,Int.fdiv_nonneg (Cn _) (rI hn),hy,E7⟩
theorem ace(aV:Base c w K cz J mg mb)(aL:H->aa D):qD c (wb c w aL) J 595:=by
 intro Y F C s o j a top t room S ej hj h0 h8 Q au q
 refine bw (I7 (rI h0)) λn aI=>?_;subst aI
 refine gK (S.ref ej hj) λx tx bB=>dO bB λy ty nn g dA=>cf dA λhx hy E7=>?_
 refine bw (I7 hx) λx aI=>?_;subst aI
 refine dO (acf (x:=x) hy E7 (n:=n) (Ja.mp h0) (Qv.mp h8)) λd x' y' ev bB=>eN bB λd0 d1 x0 dA=>xA dA λy0 y1=>?_
 have ma:=dy ej
 have dG:∀b,b∈F++C.filter (λb=>!(b==a))↔b∈F\/(b∈C/\b≠a):=λb=>by
  rw [dI,t7]
  simp
 generalize F++C.filter (λb=>!(b==a))=F2 at dG
 have vi:∀{w':WB} {F C:G aA} {h:aP} {i:ba} {t:Tok},VR c w' F C h (.int i) (.int i t):=by intro w' F C h i t;exact⟨_,rfl⟩
 have S1:St c (wb c w λ_=>none) J F2 [a] (fA [.list 2 [.int y,.int (tW x)]]) s.heap:=by
  refine⟨λb E e=>⟨(S.keep b E e).1,λz=>(S.keep b E e).2 (by rw [cA.mp z];exact ma)⟩,rfl,by simp,λb hb=>?_,λi b e=>?_⟩
  .rcases(dG b).mp hb with z|⟨z1,z2⟩
   .refine cf (S.cI b z) λq1 q2 q3=>?_
    exact⟨q1,λz=>q2 (by rw [cA.mp z];exact ma),q3⟩
   .obtain⟨i,hi,e⟩:=iE z1
    refine ay (S.at_ i b (by rw [cV hi,e])) λE _ xo=>?_
    refine⟨xo.some,λz=>z2 (cA.mp z),?_⟩
    cases z:J.get? b with
    |none=>rfl
    |some E=>exact bP z1 (S.keep b E z).2
  .cases i with
   |succ=>exact aB e
   |zero=>
    rw [<-aM e]
    exact⟨_,rfl,_,_,g,.cons vi (.one vi),fG 2,by decide⟩
 have gq:=aV.sound (aL:=λ_=>none) (gX:=λ_ _ _=>.none) (tv:=λ_=>.none) (eq:=λ_ _=>.none) (pull:=0) oM hN lM (.inl jD) (mj (.tup [.int d,.tup [.int y',.int x']])) 20
 unfold Bv at ev
 refine gq.call Y F2 [a] s _ (.fn 595) (.ref 595) [.ref 0,.int (tW n)] [.ref a,.int (n:ba) t] _ room S1 (by rfl) (.cons (by exact⟨a,rfl,rfl⟩) (.one vi)) ev _ _ λv bq h1 aZ aS p1=>?_
 refine PV.el p1 λm bM e1 S2 x1=>?_
 refine xA (Y9 e1) λeJ bB=>bw bB λb g1=>?_;subst eJ
 have a0:bq[0]?=some a:=by rw [ja aS.pre (by simp)];rfl
 refine eK (S2.ref a0 g1) λV n2 g2 z2 _ _=>?_
 refine gK (Pn g2 z2) λt1 u1 g3=>?_
 refine xA (S.Yf (M:=h1) ej hj (λb E e nb=>aS.keep b E e (λz=>nb (cA.mp z)) (λz=>nomatch z)) ⟨x',t1,y',u1,n2,g3,x0,y0,y1⟩) λst S3=>?_
 refine bw x1 ?_;clear x1;intro tk aI;rw [aI]
 refine bw (I7 d0) λdn aI=>?_;subst aI
 exact q _ C h1 aZ st ⟨dn,tk,Qv.mp d1,rfl,rfl,S3⟩
theorem Y7(e:Nc m o=some (.tup B)):∃i b,m=.ref i/\o.t.get i=some (.list b B):=by
 cases m with
 |ref i=>
  refine ay (fp e) λq h1 e=>?_
  exact⟨i,q.1,rfl,D.Pm (aM e)▸sY h1⟩
 |_=>exact aB e
theorem Ye(ns:G ba)(hl:ns.length<=63):∃B x y,(∀(aQ aJ:H->aa D),cE aQ aJ (ns.map D.int) B)/\B.length=ns.length/\xU B=some (.tup [.int y,.int x])/\0<=x/\0<=y/\y<4294967296:=by
 have jb:∀z:ba,0<=o9 z 999999937+57/\o9 z 999999937+57<4294967296:=λz=>have:=uL (z:=z) (n:=999999937) (by decide);⟨Int.add_nonneg this.1 (by decide),rJ (Qs this.2 57) (by decide)⟩
 have zJ:∀(B:G ba) (aQ aJ:H->aa D),cE aQ aJ (B.map D.int) (dh B.length .any):=λB aQ aJ o β FZ=>by
  have:=xd (o:=o) (aQ:=aQ) (aJ:=aJ) (β:=β) (FZ:=FZ) (B:=B.map D.int)
  rw [cZ] at this
  exact this
 cases ns with
 |nil=>exact⟨[],0,57,λ_ _=>KG,rfl,Yc,by decide,by decide,by decide⟩
 |cons n r=>cases n with
 |ofNat m=>
  have e:=fU (Yd m) r.length (md.mpr hl)
  refine⟨.int (.ofNat m)::dh r.length .any,?_⟩
  cases I:!(ltZ (.ofNat m) 1000000000000000000) with
  |true=>rw [I] at e;exact⟨_,_,λ_ _=>eU (et rfl) (zJ r _ _),by rw [iQ,dZ];rfl,e,Cn m,(jb _).1,(jb _).2⟩
  |false=>rw [I] at e;exact⟨_,_,λ_ _=>eU (et rfl) (zJ r _ _),by rw [iQ,dZ];rfl,e,by decide,(jb _).1,(jb _).2⟩
 |negSucc m=>
  have e:=fU (Yb m) r.length (md.mpr hl)
  refine⟨.int (.negSucc m)::dh r.length .any,?_⟩
  cases I:!(ltZ (1-.negSucc m) 1000000000000000000) with
  |true=>rw [I] at e;exact⟨_,_,λ_ _=>eU (et rfl) (zJ r _ _),by rw [iQ,dZ];rfl,e,Int.sub_nonneg_of_le (wt (rI (Qt m)) (by decide)),(jb _).1,(jb _).2⟩
  |false=>rw [I] at e;exact⟨_,_,λ_ _=>eU (et rfl) (zJ r _ _),by rw [iQ,dZ];rfl,e,by decide,(jb _).1,(jb _).2⟩
theorem Ya(aV:Base c w K cz J mg mb){ns:G ba}(hl:ns.length<=63)(t5:aL 5=some (.aD (.list 63) (ns.map D.int)))(I:cJ ((o.t.ins o.n .dj).get o.n)=true):nV c (wb c w aL) J 100 588 [.tok 5] o (.ref o.n) ⟨o.t.ins o.n .dj,cX o.n⟩:=by
 intro Y F C s V room S y Q au q
 refine dO (Ye ns hl) λB x yy cl bB=>eN bB λll ev x0 dA=>xA dA λy0 y1=>?_
 have dG:∀a∈F++C,a∈F\/a∈C:=λa ha=>dI.mp ha
 have SK:=S.bare dG (aU aH)
 have RT:=S.bare dG (λ_=>none)
 have yK:=(iG (aJ:=aU aH) t5).qp S dG (λa (ha:a∈([]:G aA))=>nomatch ha) y
 have y2:=cE.qp (aQ:=aU aH) (aJ:=λ_=>none) (F2:=F++C) (bf:=[]) (λo β FZ=>.cons (.aD (k:=.list 63) (cl _ _ o β FZ)) .nil) SK (λa ha=>.inl ha) (λa (ha:a∈([]:G aA))=>nomatch ha) yK
 have gq:=aV.sound (aL:=λ_=>none) (gX:=λ_ _ _=>.none) (tv:=λ_=>.none) (eq:=λ_ _=>.none) (pull:=0) oM hN lM (.inl jD) (mj (.tup [.int yy,.int x])) 60
 unfold xU at ev
 refine gq.call Y (F++C) [] s ⟨.nil,0⟩ (.fn 588) (.ref 588) _ _ _ (room.le (by decide)) RT (by rfl) y2 ev _ _ λv bq h1 aZ aS p1=>?_
 refine PV.el p1 λm bM e1 S1 x1=>?_
 refine jv (Y7 e1) λi b aE g1=>?_;subst aE
 refine ay x1 ?_;clear x1;intro ad ea aE;rw [aE]
 refine eK (S1.ref ea g1) λPL n2 g2 z2 _ _=>?_
 refine gK (Pn g2 z2) λt1 u1 g3=>?_
 have keep:∀b E,s.heap.get? b=some E->h1.get? b=some E:=λb E e=>aS.keep b E e (λz=>nomatch z) (λz=>nomatch z)
 have fr:s.heap.get? ad=none:=by
  cases z:s.heap.get? ad with
  |none=>rfl
  |some ob=>exact bP (dy ea) (aS.out ad ob z (λz=>nomatch z)).2
 refine cf (S.alloc fr keep (E:=.dj) ⟨x,t1,yy,u1,n2,g3,x0,y0,y1⟩ I) λst S2 hp=>?_
 exact q _ _ h1 aZ st ⟨S2,by exact⟨ad,hp,rfl⟩⟩
end
theorem VL:cz.fn 659=some ⟨1,[],ij,jm⟩:=by kernel_rfl
theorem adU(v:D):tI ⟨1,[],ij,jm⟩ [v]=some (hK (some v) .none .none .none .none .none .none .none .none .none .none .none .none):=by kernel_rfl
theorem adJ:ij=ij.take 3++((ij.drop 3).take 7++((ij.drop 10).take 1++ij.drop 11)):=by kernel_rfl
theorem YS:jm[1]?=some (⟨⟨[106,97,114]⟩⟩,pg):=by kernel_rfl
theorem ads(h:ws∈dq)(u:H)(t:ah):cR (dk (cC u) (cD (c_ ws t)))=true:=by
 unfold cR
 have e1:=o5 u
 have e2:=Ih h t
 rw [<-fB] at e1 e2⊢
 refine(?_:((bE rl&&(bE nQ&&(bE rn&&(bE (cC u)&&((bE rl&&(bE lS&&(bE rn&&(bE kO&&(bE (c_ ws t)&&true)))))&&true)))))&&true)=true)
 rw [e1,e2];rfl
theorem abw(hm:m<=2)(h:ws∈dq):fu m ws=true:=by
 have app:∀{m:H} {B l':G (G H)},allB (fu m) B=true->allB (fu m) l'=true->allB (fu m) (B++l')=true:=by
  intro m B l' h1 h2
  induction B with
  |nil=>exact h2
  |cons a B O=>
   refine xA (aN.mp (h1:(fu m a&&allB (fu m) B)=true)) λe1 e2=>?_
   refine(?_:(fu m a&&allB (fu m) (B++l'))=true)
   rw [e1,O e2];rfl
 have:allB (fu m) dq=true:=by
  unfold dq
  match m,hm with
  |0,_=>exact app abC (app abD (app abE (app abF (app abG (app abH (app abI abJ))))))
  |1,_=>exact app abK (app abL (app abM (app abN (app abO (app abP (app abQ abR))))))
  |2,_=>exact app abS (app abT (app abU (app abV (app abW (app abX (app abY abZ))))))
 exact b7 this ws h
noncomputable def ru(v:D):H->aa D
 |0=>some aH
 |5=>some v
 |_=>.none
section
variable{c:a_}{w:dF}{J:aP}{K:b8}{mg mb:ar->aa aw}{Y:bG}{F F2 C:G aA}{s:aT}{h M:aP}{o:MH}{aL aQ aJ:H->aa D}{fr:Fm}{f:eh}
structure RV(fr:Fm)(o:MH)(ws:G H)(i b:H):Prop where
 v1:fr.vars[1]?=some (some (.ref 0))
 j:o.t.get 0=some .dj
 v2:fr.vars[2]?=some (some (.tok 0))
 v3:fr.vars[3]?=some (some (.ref i))
 i1:1<=i
 g:o.t.get i=some (.list b (fs ws).reverse)
 ws:ws∈dq
theorem Y4(e:FY f fr o=true):f=.next/\∃ws i b,RV fr o ws i b:=by
 refine xA (AS (bL (bx (bx e)))) λj1 j2=>?_
 refine ay (nH (bL e)) λr h1 e3=>?_
 refine ay (Sp e3) λws m e3=>?_
 refine eO (Ew h1) λi b k1 k2 k3=>?_
 exact⟨xS (bx (bx (bx e))),ws,i,b,mP j1,j2,Iu (bL (bx e)),mP k1,k2,by rw [eu e3];exact k3,m⟩
structure RW(fr:Fm)(o:MH)(u:H)(t:ah)(m k num:H):Prop where
 v1:fr.vars[1]?=some (some (.ref 0))
 j:o.t.get 0=some .dj
 v2:fr.vars[2]?=some (some (.tok 0))
 v3:fr.vars[3]?=some (some (.tok 41))
 v4:fr.vars[4]?=some (some (cC u))
 v5:fr.vars[5]?=some (some (.bool t))
 v7:fr.vars[7]?=some (some (.int (.ofNat m)))
 v9:fr.vars[9]?=some (some (fR k))
 v10:fr.vars[10]?=some (some (.int (.ofNat num)))
 v11:fr.vars[11]?=some (some (dk (cC u) (cD (.tok (BZ t)))))
 u3:u<3
 k4:k<4
 n3:num∈[1,2,3]
 m2:m<=2
 tm:t=true\/m=0
theorem AK{α:Type}{a b I x:α}(h:[a,b,I][i]?=some x):(i=0/\x=a)\/(i=1/\x=b)\/(i=2/\x=I):=by
 rcases i with _|_|_|i
 .exact .inl ⟨rfl,(aM h).symm⟩
 .exact .inr (.inl ⟨rfl,(aM h).symm⟩)
 .exact .inr (.inr ⟨rfl,(aM h).symm⟩)
 .exact aB h
theorem ae4{u:H}{v:D}(h:pR Pp v=some u):u<3/\v=cC u/\cC u≠.any:=by
 rcases AK (AM h) with⟨rfl,rfl⟩|⟨rfl,rfl⟩|⟨rfl,rfl⟩<;>exact⟨by decide,rfl,λz=>nomatch z⟩
theorem Zo{m:H}{v:D}(h:pR Nk v=some m):m<=2/\v=.int (.ofNat m):=by
 rcases AK (AM h) with⟨rfl,rfl⟩|⟨rfl,rfl⟩|⟨rfl,rfl⟩<;>exact⟨by decide,rfl⟩
theorem aag{m:H}{v:D}(h:pR Nt v=some m):m+1∈[1,2,3]/\v=.int (.ofNat (m+1)):=by
 rcases AK (AM h) with⟨rfl,rfl⟩|⟨rfl,rfl⟩|⟨rfl,rfl⟩<;>exact⟨by decide,rfl⟩
theorem Yj{k:H}{v:D}(h:pR MP v=some k):k<4/\v=fR k/\fR k≠.any:=by
 have h:=AM h
 rcases k with _|k
 .exact⟨by decide,(aM h).symm,λz=>nomatch z⟩
 .rcases AK (h:[ai,ak,af][k]?=some v) with⟨rfl,rfl⟩|⟨rfl,rfl⟩|⟨rfl,rfl⟩<;>exact⟨by decide,rfl,λz=>nomatch z⟩
theorem Y5(e:F0 f fr o=true):f=.next/\∃u t m k num,RW fr o u t m k num:=by
 have e6:=bx e
 have e5:=bx e6
 have e4:=bx e5
 have e3:=bx e4
 have e2:=bx e3
 refine xA (AS (bL e2)) λj1 j2=>?_
 refine ay (nH (bL e5)) λt ht I=>?_
 refine ay (nH (bL (bx I))) λu hu cu=>?_
 refine ay (nH (bL I)) λm hm cm=>?_
 refine cf (ae4 hu) λu1 u2 u3=>?_
 refine xA (Zo hm) λm1 m2=>?_
 refine cf (Yj (pT (d:=0) (bL e6))) λk1 k2 k3=>?_
 refine xA (aag (pT (d:=0) (bL e))) λn1 n2=>?_
 have q:=(iK cu).symm
 rw [PD] at q
 exact⟨xS (bx e2),u,t,m,_,_,mP j1,j2,Iu (bL e3),qn (bL e4),wc u2 u3,wc (XY ht) (λz=>nomatch z),wc m2 (λz=>nomatch z),wc k2 k3,wc n2 (λz=>nomatch z),wc q (λz=>nomatch z),u1,k1,n1,m1,(k_.mp cm).imp id dU⟩
structure RX(fr:Fm)(o:MH)(ws:G H)(m i b:H)(r:G D):Prop where
 v1:fr.vars[1]?=some (some (.ref 0))
 j:o.t.get 0=some .dj
 v2:fr.vars[2]?=some (some (.tok 0))
 v3:fr.vars[3]?=some (some (gJ ws))
 v4:fr.vars[4]?=some (some (.tok 27))
 v5:fr.vars[5]?=some (some (.tok 28))
 v9:fr.vars[9]?=some (some (.tok 31))
 v10:fr.vars[10]?=some (some (.tok 32))
 v11:fr.vars[11]?=some (some (.tok 40))
 afa:fr.vars[12]?=some (some (.ref i))
 i1:1<=i
 g:o.t.get i=some (.list b r)
 ok:Bh (dh m j0) ws r.reverse=true
theorem abd(e:Ft ws (gw E)=true):E=some (gJ ws):=by
 cases E with
 |none=>nomatch e
 |some v=>rw [X8 (v:=v) e]
theorem Y6(e:F1 ws m f fr o=true):f=.next/\∃i b r,RX fr o ws m i b r:=by
 have e9:=bx e
 have e8:=bx e9
 have e7:=bx e8
 have e6:=bx e7
 have e5:=bx e6
 have e4:=bx e5
 have e3:=bx e4
 have e2:=bx e3
 refine xA (AS (bL e2)) λj1 j2=>?_
 refine ay (nH (bL e)) λr h1 I=>?_
 refine eO (Ew h1) λi b k1 k2 k3=>?_
 exact⟨xS (bx e2),i,b,r,mP j1,j2,Iu (bL e3),mP (abd (bL e9)),qn (bL e4),qn (bL e5),qn (bL e6),qn (bL e7),qn (bL e8),mP k1,k2,k3,by rw [<-fD];exact I⟩
theorem VZ{u:H}{k num:H}(w:H)(d:ah):cE (lY u t k num d_) aJ [formOf w d] [qc k num w d]:=by
 have ck:cE (lY u t k num d_) aJ [.tok 31] [fR k]:=iG rfl
 have co:cE (lY u t k num d_) aJ [.tok 30] [hU k]:=iG rfl
 have cn:cE (lY u t k num d_) aJ [.tup [sN,.tok 32]] [Mine.Internal.num num]:=kj (eU (et rfl) (iG rfl))
 match w with
 |0=>exact co
 |1=>exact kj (eU (et rfl) (eU (et rfl) (kj (eU ck (et rfl)))))
 |2=>exact kj (eU (et rfl) (eU (et rfl) (kj (eU ck cn))))
 |3=>cases d<;>exact et rfl
 |4=>exact kj (eU (et rfl) ck)
 |w+5=>exact kj (eU (et rfl) (eU (kj (eU co (et rfl))) (et rfl)))
theorem abB{u:H}{k num m:H}:∀{B:G D},Bh (dh m j0) ws B=true->∃aG,bD aG=ws/\cE (lY u t k num d_) aJ B (cY k num aG m):=by
 induction ws with
 |nil=>exact λ{B} e=>⟨[],rfl,eu (e:cT (dh m j0) B=true)▸DP λz hz=>by rw [(Q0.mp hz).2];rfl⟩
 |cons w ws O=>
  intro B e
  cases B with
  |nil=>exact bz e
  |cons x B=>
   refine xA (aN.mp (e:((eW (formOf w false) x||eW (formOf w true) x)&&Bh (dh m j0) ws B)=true)) λe1 e2=>?_
   refine ay (O e2) λaG h1 h2=>?_
   obtain⟨d,rfl⟩:∃d,formOf w d=x:=(k_.mp e1).elim (λz=>⟨_,iK z⟩) λz=>⟨_,iK z⟩
   exact⟨(w,d)::aG,cq _ h1,eU (VZ w d) h2⟩
end
theorem fits_of(h1:1<=n)(h3:n<=3)(hm:m<=2)(ht:t=true\/m=0):(n+m,n,t)∈fits:=by
 rcases ht with rfl|rfl
 .have h4:=rT h3
  rcases qZ (rT hm) with rfl|rfl|rfl
  .exact Ag h1 h3 _
  .exact VA n h4 h1
  .exact VC n h4 h1
 .exact Ag h1 h3 t
theorem Ph(hk:k<4):some (fR k)∈rA/\some (hU k)∈rA:=by
 have n:∀i,(h:i<rA.length)->rA[i]∈rA:=λi h=>zg h
 rcases pX hk with rfl|rfl|rfl|rfl
 .exact⟨n 1 (by decide),n 1 (by decide)⟩
 .exact⟨n 2 (by decide),n 2 (by decide)⟩
 .exact⟨n 3 (by decide),n 5 (by decide)⟩
 .exact⟨n 4 (by decide),n 2 (by decide)⟩
theorem aeR(hk:k<4)(ws:G H):oZ k ws∈rA:=by
 unfold oZ vY
 cases ws.any fH with
 |true=>exact(Ph hk).1
 |false=>
  cases ws.any i7 with
  |true=>exact(Ph hk).2
  |false=>exact .head _
theorem aaL{num:H}(hn:num∈[1,2,3])(ws:G H):oO num ws∈jI:=by
 unfold oO
 split
 .exact .tail _ (cF.mpr ⟨num,hn,rfl⟩)
 .exact .head _
theorem abx(h1:1<=n)(h3:n<=3)(hm:m<=2)(ht:t∈rA)(ho:E∈jI):GW n m (su t E)=some (.bool true):=by
 have mem:(n,m)∈ND:=by
  match n,h1,h3,m,hm with
  |1,_,_,0,_|1,_,_,1,_|1,_,_,2,_|2,_,_,0,_|2,_,_,1,_|2,_,_,2,_|3,_,_,0,_|3,_,_,1,_|3,_,_,2,_=>decide
 have:=b7 (b7 (b7 aby (n,m) mem) t ht) E ho
 dsimp only at this
 generalize e:GW n m (su t E)=ax at this
 cases ax with
 |none=>nomatch this
 |some v=>rw [iK this]
section
variable{c:a_}{w:dF}{J:aP}{K:b8}{mg mb:ar->aa aw}{Y:bG}{F F2 C:G aA}{s:aT}{h M:aP}{o:MH}{aL aQ aJ:H->aa D}{fr:Fm}{f:eh}
theorem abf(aV:Base c w K cz J mg mb){ns:G ba}(hl:ns.length<=63):iF c (wb c w (ru (.aD (.list 63) (ns.map D.int)))) J WA:=by
 intro a args o q e
 have e:GU a args o=some q:=e
 unfold GU at e
 generalize h1:bA a 588=ax at e
 cases ax with
 |true=>
  rw [dU h1]
  refine xA (uY e) λI e2=>?_
  refine ay (N2 (bx I)) λv aI c1=>?_;rw [aI]
  rw [<-aM e2,lF c1]
  exact Ya aV hl rfl (bL I)
 |false=>
  clear h1
  generalize h2:bA a 567=ax at e
  cases ax with
  |true=>
   refine xA (uY e) λI e=>?_
   rw [dU h2,eu I,<-aM e]
   exact Yt aV rfl
  |false=>
   refine xA (uY e) λI e2=>?_
   refine ay (N2 (bL I)) λv aI c1=>?_;rw [aI]
   rw [dU (bx I),<-aM e2,xT c1]
   exact rh (VG aV) (λ_ _ _=>.cons (.gZ (i:=0) (j:=0) rfl rfl) .nil) (et rfl)
theorem YM(aV:Base c w K cz J mg mb){ns:G ba}(hl:ns.length<=63)(room:eY 340 Y)(S:St c (wb c w (aU aH)) J F [] ⟨.nil,0⟩ s.heap)(y:VR c (wb c w (aU aH)) F [] s.heap (.aD (.list 63) (ns.map D.int)) v):
  bc c (wb c w (aU aH)) Y [] [] s (call (.ref 659) [v]) (λu _ _=>u=.bool true):=by
 intro Q au q
 obtain⟨E,fd,dv,Fi⟩:=aV.fn (aL:=aU aH) VL
 have T:=aV.top (aL:=aU aH) (gX:=λ_ _ _=>.none) (tv:=ke) (eq:=λ_ _=>.none) (pull:=0) (kY rfl) hN
 have pl:∀aL,qD c (wb c w aL) J 595:=ace aV
 have ab_:bC (.aD (.list 63) (ns.map D.int))=true:=by
  rw [<-fB,s9]
  exact yz λm hm=>by obtain⟨i,_,rfl⟩:=cF.mp hm;rfl
 refine B_ (zP (n:=339) (ag:=Prop) (ae:=λr=>r) (k:=λm o=>m=.bool true) T Fi room.calls room.deep S (.one y) (adU _) (λs1 X C1=>?_) λv ao M tk st pv=>?_)
 .intro Q au q
  refine(?_:bo _ _ (iH ij X) _ _ _)
  rw [adJ,uJ]
  have G0:dm c (wb c w (aU aH)) (ownOf X++F) [] s1.heap jm (hK (some (.aD (.list 63) (ns.map D.int))) .none .none .none .none .none .none .none .none .none .none .none .none) X:=C1.fr
  have gF:=G0.own
  have no:∀{P:D->Prop},∀m,(none:aa D)=some m->P m:=λm e=>nomatch e
  have S1:=C1.st.bare (F2:=ownOf X++F) (λa ha=>.inl ha) (ru (.aD (.list 63) (ns.map D.int)))
  have G1:dm c (wb c w (ru (.aD (.list 63) (ns.map D.int)))) (ownOf X++F) [] s1.heap jm (hK (some (.tok 5)) .none .none .none .none .none .none .none .none .none .none .none .none) X:=by
   refine G0.weak gF (sZ (P:=λi m'=>∃m,(hK (some (.aD (.list 63) (ns.map D.int))) .none .none .none .none .none .none .none .none .none .none .none .none)[i]?=some (some m)/\∀v,VR c (wb c w (aU aH)) (ownOf X++F) [] s1.heap m v->VR c (wb c w (ru (.aD (.list 63) (ns.map D.int)))) (ownOf X++F) [] s1.heap m' v) (λm e=>?_) no no no no no no no no no no no no)
   have e:=aM e
   rw [<-e]
   exact⟨_,rfl,λv x=>xe C1.st (λa (ha:a∈([]:G aA))=>nomatch ha) (.eT ab_ rfl rfl) x⟩
  have D1:Ctx c (wb c w (ru (.aD (.list 63) (ns.map D.int)))) J 338 (Y.deeper X) (ownOf X++F) [] s1 ⟨.nil,0⟩ ⟨jm,.none⟩ ⟨hK (some (.tok 5)) .none .none .none .none .none .none .none .none .none .none .none .none,[]⟩ X:=⟨C1.room.le (by decide),S1,G1⟩
  have R3:=aV.sound (aL:=ru (.aD (.list 63) (ns.map D.int))) oM hN (abf aV hl) (.inr (pl _)) zH 338
  refine aO (ku R3.ex (ij.take 3) [] s1 ⟨.nil,0⟩ _ FY D1 abt _ _ λf1 bq jF aZ aS p1=>?_)
  obtain⟨g1,fq,bM,e1,S2,G2,sA⟩:=p1
  obtain⟨rfl,ws,i1,b1,W1⟩:=Y4 e1
  have sA:f1=.next:=sA
  subst sA
  have G2:dm c (wb c w (ru (.aD (.list 63) (ns.map D.int)))) (ownOf X++F) bq jF jm fq.vars X:=G2
  have qU:=W1.ws
  obtain⟨aj,ej⟩:∃aj,bq[0]?=some aj:=by
   refine eK (G2.cell 1 _ YS) λI ov _ _ _ hv=>?_
   refine ay (hv _ W1.v1) λv _ x=>?_
   refine ay x λz e _=>?_
   exact⟨z,e⟩
  obtain⟨S3,G3⟩:=vg (aJ:=aU aH) (rC:=hK .none (some (.ref 0)) (some (.tok 0)) (some (gJ ws)) .none .none .none .none .none .none .none .none .none) S2 G2 ej W1.j
   (sZ (P:=λi m2=>∃m,fq.vars[i]?=some (some m)/\Cv (ru (.aD (.list 63) (ns.map D.int))) (aU aH) bM bJ (λi=>1<=i) m m2) no
    (λm e=>by have e:=aM e;subst e;exact⟨_,W1.v1,.ref rfl⟩)
    (λm e=>by have e:=aM e;subst e;exact⟨_,W1.v2,.gZ (i:=0) (j:=0) rfl rfl⟩)
    (λm e=>by
     have e:=aM e;subst e
     refine⟨_,W1.v3,.lst W1.g W1.i1 (by rw [mU];exact iw (Fj ws)) ?_ (by decide)⟩
     have:=r4 qU
     unfold fs
     rw [cZ]
     exact dQ (by assumption) (by decide)) no no no no no no no no no)
  have tG:bh (ownOf X) [] s1.heap [aj] jF:=bh.cut aS (λa ha=>by rw [cA.mp ha];exact dy ej) wC
  obtain⟨S4,G4⟩:=vg (aJ:=rx ws) (rC:=hK .none (some (.ref 0)) (some (.tok 0)) (some (.tok 41)) .none .none .none .none .none .none .none .none .none) S3 G3 rfl rfl
   (sZ (P:=λi m2=>∃m,(hK .none (some (.ref 0)) (some (.tok 0)) (some (gJ ws)) .none .none .none .none .none .none .none .none .none)[i]?=some (some m)/\Cv (aU aH) (rx ws) (fA [.dj]) bJ (λi=>1<=i) m m2) no
    (λm e=>by have e:=aM e;subst e;exact⟨_,rfl,.ref rfl⟩)
    (λm e=>by have e:=aM e;subst e;exact⟨_,rfl,.gZ (i:=0) (j:=0) rfl rfl⟩)
    (λm e=>by have e:=aM e;subst e;exact⟨_,rfl,.eT (we ws) rfl rfl⟩) no no no no no no no no no)
  have D2:Ctx c (wb c w (rx ws)) J 120 (Y.deeper X) (ownOf X++F) [aj] {s1 with heap:=jF,toks:=aZ} (fA [.dj]) ⟨jm,.none⟩ ⟨hK .none (some (.ref 0)) (some (.tok 0)) (some (.tok 41)) .none .none .none .none .none .none .none .none .none,[]⟩ X:=⟨C1.room.le (by decide),S4,G4⟩
  have R4:=aV.sound (aL:=rx ws) oM hN (abg aV qU) (.inr (pl _)) zH 120
  refine(?_:bo _ _ (iH ((ij.drop 3).take 7++((ij.drop 10).take 1++ij.drop 11)) X) _ _ _)
  rw [uJ]
  refine aO (ku R4.ex ((ij.drop 3).take 7) [aj] _ (fA [.dj]) _ F0 D2 abv _ _ λf2 bf jh bS bp p2=>?_)
  obtain⟨g2,kE,dz,e2,S5,G5,sC⟩:=p2
  obtain⟨rfl,u,t,m,k,num,W2⟩:=Y5 e2
  have sC:f2=.next:=sC
  subst sC
  have G5:dm c (wb c w (rx ws)) (ownOf X++F) bf jh jm kE.vars X:=G5
  have Le:bf[0]?=some aj:=by rw [ja bp.pre (by simp)];rfl
  refine eN (Fy W2.k4) λk1 k2 k3 k4=>?_
  have E3:cR (dk (cC u) (cD (c_ ws t)))=true:=ads qU u t
  refine xA (aN.mp E3) λA0 xX=>?_
  obtain⟨S6,G6⟩:=vg (aJ:=aU aH) (rC:=hK .none (some (.ref 0)) (some (.tok 0)) (some (gJ ws)) (some (cC u)) (some (.bool t)) .none (some (.int (.ofNat m))) .none (some (fR k)) (some (.int (.ofNat num))) (some (dk (cC u) (cD (c_ ws t)))) .none) S5 G5 Le W2.j
   (sZ (P:=λi m2=>∃m,kE.vars[i]?=some (some m)/\Cv (rx ws) (aU aH) dz bJ (λi=>1<=i) m m2) no
    (λm e=>by have e:=aM e;subst e;exact⟨_,W2.v1,.ref rfl⟩)
    (λm e=>by have e:=aM e;subst e;exact⟨_,W2.v2,.gZ (i:=0) (j:=0) rfl rfl⟩)
    (λm e=>by have e:=aM e;subst e;exact⟨_,W2.v3,.fe rfl⟩)
    (λm e=>by have e:=aM e;subst e;exact⟨_,W2.v4,.same (o5 u)⟩)
    (λm e=>by have e:=aM e;subst e;exact⟨_,W2.v5,.same rfl⟩) no
    (λm e=>by have e:=aM e;subst e;exact⟨_,W2.v7,.same rfl⟩) no
    (λm e=>by have e:=aM e;subst e;exact⟨_,W2.v9,.same k1⟩)
    (λm e=>by have e:=aM e;subst e;exact⟨_,W2.v10,.same rfl⟩)
    (λm e=>by have e:=aM e;subst e;exact⟨_,W2.v11,(DQ (et (o5 u)) (iG (O8 t))).one _ _ _⟩) no)
  have HI:bh (ownOf X) [] s1.heap [aj] jh:=bh.cut (tG.trans bp) (λa ha=>by rw [cA.mp ha];exact dy Le) wC
  obtain⟨S7,G7⟩:=vg (aJ:=lY u t k num (dk (cC u) (cD (c_ ws t)))) (rC:=hK .none (some (.ref 0)) (some (.tok 0)) (some (gJ ws)) (some (.tok 27)) (some (.tok 28)) .none (some (.int (.ofNat m))) .none (some (.tok 31)) (some (.tok 32)) (some (.tok 40)) .none) S6 G6 rfl rfl
   (sZ (P:=λi m2=>∃m',(hK .none (some (.ref 0)) (some (.tok 0)) (some (gJ ws)) (some (cC u)) (some (.bool t)) .none (some (.int (.ofNat m))) .none (some (fR k)) (some (.int (.ofNat num))) (some (dk (cC u) (cD (c_ ws t)))) .none)[i]?=some (some m')/\Cv (aU aH) (lY u t k num (dk (cC u) (cD (c_ ws t)))) (fA [.dj]) bJ (λi=>1<=i) m' m2) no
    (λm e=>by have e:=aM e;subst e;exact⟨_,rfl,.ref rfl⟩)
    (λm e=>by have e:=aM e;subst e;exact⟨_,rfl,.gZ (i:=0) (j:=0) rfl rfl⟩)
    (λm e=>by have e:=aM e;subst e;exact⟨_,rfl,.same (we ws)⟩)
    (λm e=>by have e:=aM e;subst e;exact⟨_,rfl,.eT (o5 u) (B3 u) rfl⟩)
    (λm e=>by have e:=aM e;subst e;exact⟨_,rfl,.eT rfl rfl rfl⟩) no
    (λm e=>by have e:=aM e;subst e;exact⟨_,rfl,.same rfl⟩) no
    (λm e=>by have e:=aM e;subst e;exact⟨_,rfl,.eT k1 k3 rfl⟩)
    (λm e=>by have e:=aM e;subst e;exact⟨_,rfl,.eT rfl rfl rfl⟩)
    (λm e=>by have e:=aM e;subst e;exact⟨_,rfl,.eT A0 xX rfl⟩) no)
  have D3:Ctx c (wb c w (lY u t k num (dk (cC u) (cD (c_ ws t))))) J 70 (Y.deeper X) (ownOf X++F) [aj] {s1 with heap:=jh,toks:=bS} (fA [.dj]) ⟨jm,.none⟩ ⟨hK .none (some (.ref 0)) (some (.tok 0)) (some (gJ ws)) (some (.tok 27)) (some (.tok 28)) .none (some (.int (.ofNat m))) .none (some (.tok 31)) (some (.tok 32)) (some (.tok 40)) .none,[]⟩ X:=⟨C1.room.le (by decide),S7,G7⟩
  have R6:=aV.sound (aL:=lY u t k num (dk (cC u) (cD (c_ ws t)))) oM hN (KA aV W2.k4 rfl rfl) (.inr (pl _)) zH 70
  refine(?_:bo _ _ (iH ((ij.drop 10).take 1++ij.drop 11) X) _ _ _)
  rw [uJ]
  refine aO (ku R6.ex ((ij.drop 10).take 1) [aj] _ (fA [.dj]) _ (F1 ws m) D3 (abw W2.m2 qU) _ _ λf3 dY xN ey dp p3=>?_)
  obtain⟨g3,pM,hM,e3,S8,G8,sD⟩:=p3
  obtain⟨rfl,i3,b3,r3,W3⟩:=Y6 e3
  have sD:f3=.next:=sD
  subst sD
  have G8:dm c (wb c w (lY u t k num (dk (cC u) (cD (c_ ws t))))) (ownOf X++F) dY xN jm pM.vars X:=G8
  have Lf:dY[0]?=some aj:=by rw [ja dp.pre (by simp)];rfl
  refine ay (abB (u:=u) (t:=t) (k:=k) (num:=num) (d_:=dk (cC u) (cD (c_ ws t))) (aJ:=aU aH) W3.ok) λaG ew cp=>?_
  subst ew
  have lw:=Cb aG
  have l1:=J1 qU
  have l3:=r4 qU
  rw [lw] at l1 l3
  have m2:=W2.m2
  have lp:=Bu k num aG m
  have nL:=vK W2.k4 W2.n3 (λwd hm=>lW qU _ (cF.mpr ⟨wd,hm,rfl⟩)) (ik:=m) (aG:=aG)
  obtain⟨S9,G9⟩:=vg (aJ:=aU aH) (rC:=hK .none (some (.ref 0)) (some (.tok 0)) (some (gJ (bD aG))) (some (cC u)) (some (.bool t)) .none .none .none (some (fR k)) (some (.int (.ofNat num))) (some (dk (cC u) (cD (c_ (bD aG) t)))) (some (.aD (.list 200) (cY k num aG m)))) S8 G8 Lf W3.j
   (sZ (P:=λi m2=>∃m',pM.vars[i]?=some (some m')/\Cv (lY u t k num (dk (cC u) (cD (c_ (bD aG) t)))) (aU aH) hM bJ (λi=>1<=i) m' m2) no
    (λm e=>by have e:=aM e;subst e;exact⟨_,W3.v1,.ref rfl⟩)
    (λm e=>by have e:=aM e;subst e;exact⟨_,W3.v2,.gZ (i:=0) (j:=0) rfl rfl⟩)
    (λm e=>by have e:=aM e;subst e;exact⟨_,W3.v3,.same (we _)⟩)
    (λm e=>by have e:=aM e;subst e;exact⟨_,W3.v4,.fe rfl⟩)
    (λm e=>by have e:=aM e;subst e;exact⟨_,W3.v5,.fe rfl⟩) no no no
    (λm e=>by have e:=aM e;subst e;exact⟨_,W3.v9,.fe rfl⟩)
    (λm e=>by have e:=aM e;subst e;exact⟨_,W3.v10,.fe rfl⟩)
    (λm e=>by have e:=aM e;subst e;exact⟨_,W3.v11,.fe rfl⟩)
    (λm e=>by have e:=aM e;subst e;exact⟨_,W3.afa,.lst W3.g W3.i1 (cp _ _ _) (by rw [lp];lia) (by decide)⟩))
  have adM:bh (ownOf X) [] s1.heap [aj] xN:=bh.cut (HI.trans dp) (λa ha=>by rw [cA.mp ha];exact dy Lf) wC
  have hf:=fits_of l1 l3 m2 W2.tm
  have O4:=abh aV qU W2.k4 W2.u3 W2.n3 hf pl
  have cw:∀o β FZ,cG (aU aH) (iY u t k num (dk (cC u) (cD (c_ (bD aG) t))) (cY k num aG m) (fs (bD aG))) o β FZ (fs (bD aG)) (tQ aG.length):=λo β FZ=>by
   have:=qI (aQ:=aU aH) (aJ:=iY u t k num (dk (cC u) (cD (c_ (bD aG) t))) (cY k num aG m) (fs (bD aG))) (o:=o) (β:=β) (FZ:=FZ) (f:=λi=>(fs (bD aG)).getD i .none) (g:=λi=>D.tok (60+i)) (B:=fZ (fs (bD aG)).length) λi hi=>by
    have hi:=md.mp hi
    have e:(fs (bD aG)).getD i .none=(fs (bD aG))[i]:=by simp [qA,hi]
    have Mc:(fs (bD aG))[i]∈fs (bD aG):=zg hi
    refine ay (cF.mp Mc) λz _ hz=>?_
    refine .eT (by rw [e];exact Fj _ _ Mc) (by rw [e,<-hz];rfl) (by rw [HX,cV hi,e])
   rw [map_getD] at this
   have e:(fs (bD aG)).length=aG.length:=by unfold fs;rw [cZ,lw]
   rw [e] at this
   exact this
  obtain⟨RQ,Qo⟩:=vg (aJ:=iY u t k num (dk (cC u) (cD (c_ (bD aG) t))) (cY k num aG m) (fs (bD aG))) (rC:=hK .none (some (.ref 0)) (some (.tok 0)) (some (.aD (.list 63) (tQ aG.length))) (some (.tok 27)) (some (.tok 28)) .none .none .none (some (.tok 31)) (some (.tok 32)) (some (.tok 40)) (some (.aD (.list 200) (toks (aG.length+m))))) S9 G9 rfl rfl
   (sZ (P:=λi m2=>∃m',(hK .none (some (.ref 0)) (some (.tok 0)) (some (gJ (bD aG))) (some (cC u)) (some (.bool t)) .none .none .none (some (fR k)) (some (.int (.ofNat num))) (some (dk (cC u) (cD (c_ (bD aG) t)))) (some (.aD (.list 200) (cY k num aG m))))[i]?=some (some m')/\Cv (aU aH) (iY u t k num (dk (cC u) (cD (c_ (bD aG) t))) (cY k num aG m) (fs (bD aG))) (fA [.dj]) bJ (λi=>1<=i) m' m2) no
    (λm e=>by have e:=aM e;subst e;exact⟨_,rfl,.ref rfl⟩)
    (λm e=>by have e:=aM e;subst e;exact⟨_,rfl,.gZ (i:=0) (j:=0) rfl (kW (by decide))⟩)
    (λm e=>by have e:=aM e;subst e;exact⟨_,rfl,.aD (cw _ _ _)⟩)
    (λm e=>by have e:=aM e;subst e;exact⟨_,rfl,.eT (o5 u) (B3 u) (kW (by decide))⟩)
    (λm e=>by have e:=aM e;subst e;exact⟨_,rfl,.eT rfl rfl (kW (by decide))⟩) no no no
    (λm e=>by have e:=aM e;subst e;exact⟨_,rfl,.eT k1 k3 (kW (by decide))⟩)
    (λm e=>by have e:=aM e;subst e;exact⟨_,rfl,.eT rfl rfl (kW (by decide))⟩)
    (λm e=>by have e:=aM e;subst e;exact⟨_,rfl,.eT A0 xX (kW (by decide))⟩)
    (λm' e=>by
     have e:=aM e;subst e
     refine⟨_,rfl,.aD ?_⟩
     have:=DS (aQ:=aU aH) (aJ:=iY u t k num (dk (cC u) (cD (c_ (bD aG) t))) (cY k num aG m) (fs (bD aG))) (ps:=cY k num aG m) (λi hi=>HW (by lia)) (λz hz=>b7 uq z (nL z hz)) (fA [.dj]) bJ (λi=>1<=i)
     rw [lp] at this
     exact this))
  have D4:Ctx c (wb c w (iY u t k num (dk (cC u) (cD (c_ (bD aG) t))) (cY k num aG m) (fs (bD aG)))) J 300 (Y.deeper X) (ownOf X++F) [aj] {s1 with heap:=xN,toks:=ey} (fA [.dj]) ⟨jm,.none⟩ ⟨hK .none (some (.ref 0)) (some (.tok 0)) (some (.aD (.list 63) (tQ aG.length))) (some (.tok 27)) (some (.tok 28)) .none .none .none (some (.tok 31)) (some (.tok 32)) (some (.tok 40)) (some (.aD (.list 200) (toks (aG.length+m)))),[]⟩ X:=⟨C1.room.le (by decide),RQ,Qo⟩
  have R7:=aV.sound (aL:=iY u t k num (dk (cC u) (cD (c_ (bD aG) t))) (cY k num aG m) (fs (bD aG))) oM hN O4 (.inl jD) (mj (.bool true)) 300
  refine(?_:bo _ _ (iH (ij.drop 11) X) _ _ _)
  refine ku R7.ex (ij.drop 11) [aj] _ (fA [.dj]) _ Nb D4 (abx l1 l3 m2 (aeR W2.k4 (bD aG)) (aaL W2.n3 (bD aG))) _ _ λf4 gC Mi jt fc p4=>?_
  obtain⟨g4,V0,p7,e4,RR,Cj,LD⟩:=p4
  have Cj:dm c (wb c w (iY u t k num (dk (cC u) (cD (c_ (bD aG) t))) (cY k num aG m) (fs (bD aG)))) (ownOf X++F) gC Mi jm V0.vars X:=Cj
  cases g4 with
  |next=>nomatch e4
  |ret mv=>
   have e4:=aM e4
   subst e4
   refine ay LD ?_;clear LD;intro v4 aI x4;subst aI
   subst x4
   have RS:=RR.bare (F2:=ownOf X++F) (λa ha=>.inl ha) (aU aH)
   exact q _ [] Mi jt (bh.cut (adM.trans fc) (λa ha=>nomatch ha) wC) ⟨.ret (.bool true),⟨[],[]⟩,_,rfl,RS,Cj.bare gF,_,rfl,by rfl⟩
 .obtain⟨mv,br,rfl,S',xm⟩:=pv
  exact q v ao M tk st xm
end
noncomputable abbrev PP:a_:=RI
noncomputable def mL(T:BT)(n a:H):aa jy:=match dB a n with
 |true=>match T.get a with
  |some E=>alive E
  |none=>none
 |false=>none
noncomputable def En(E:jy):aa y_:=match E.data with
 |.func fd=>some fd
 |_=>none
noncomputable def Ef(E:jy):aa (dS tU):=match E.data with
 |.dict R _=>some R
 |_=>none
noncomputable def B8(E:jy):aa (G aw):=match E.data with
 |.seq V _=>some V.toList
 |_=>none
noncomputable def Er(E:jy):aa (dS aw):=match E.data with
 |.fields V=>some V
 |_=>none
noncomputable def TL(E:jy):aa ClassData:=match E.data with
 |.cls cd=>some cd
 |_=>none
noncomputable def Ik(E:jy):aa (G aw):=match E.cls==.type "tuple" &&E.dict.isNone&&E.slots.isEmpty with
 |true=>B8 E
 |false=>none
noncomputable def Bw:aw->aa aA
 |.ref a=>some a
 |_=>none
noncomputable def Mv:aw->aa ba
 |.int i _=>some i
 |_=>none
noncomputable def HO:aw->aa ar
 |.str s _=>some s
 |_=>none
noncomputable def Hx(s:ar)(E:aa ar):ah:=match E with
 |some t=>seq s t
 |none=>false
noncomputable def ra{α:Type}(f:α->ah)(E:aa α):ah:=match E with
 |some a=>f a
 |none=>false
noncomputable def GC(T:BT)(n a:H):aa (dS tU):=(mL T n a).bind Ef
noncomputable def zT(f:D->aw->ah):G D->G aw->ah
 |[],[]=>true
 |m::B,v::r=>f m v&&zT f B r
 |_,_=>false
noncomputable def zS(T:BT)(n:H):H->D->aw->ah
 |0,_,_=>false
 |k+1,m,v=>match m with
  |.none=>v==.none
  |.bool b=>v==.bool b
  |.int i=>decide (Mv v=some i)
  |.str s=>Hx s (HO v)&&g8 s
  |.fn a=>v==.ref a
  |.bi b=>v==b.value
  |.tup B=>ra (zT (zS T n k) B) ((Bw v).bind λa=>(mL T n a).bind Ik)
  |_=>false
noncomputable def XZ(v:aw)(m:D):ah:=match m with
 |.bi b=>v==b.value
 |_=>false
noncomputable def Kr(T:BT)(n:H)(eg eb:dS tU)(p:ar×D):ah:=j6 p.2&&match Be eg p.1 with
 |some v=>zS T n 8 p.2 v
 |none=>ra (λv=>XZ v p.2) (Be eb p.1)
noncomputable def Hr:G ar->G ar->ah
 |[],[]=>true
 |a::B,b::r=>seq a b&&Hr B r
 |_,_=>false
noncomputable def Gn:G ar->ah
 |[]=>true
 |a::B=>(B.all λb=>!seq a b)&&Gn B
noncomputable def Kx(T:BT)(n:H)(cd:aw)(q:ar):ah:=Hx q ((Bw cd).bind λI=>(mL T n I).bind λE=>(Er E).bind λV=>V[1]?.bind HO)
noncomputable def KO(T:BT)(n:H)(d:aw)(B:G D):ah:=(d==.none&&B.isEmpty)||ra (zT (zS T n 8) B) ((Bw d).bind λa=>(mL T n a).bind B8)
noncomputable def MA:ScopeKind->ah
 |.function=>true
 |_=>false
noncomputable def Lw(T:BT)(n a:H):aa y_:=(mL T n a).bind En
noncomputable def GH(T:BT)(n:H)(fd:y_)(az:Fn):ah:=Kx T n fd.code fd.qualname&&GG fd&&MA fd.scope.kind&&Hr (fd.params.args.map (·.arg)) ((az.sc.take az.hO).map (·.1))&&
   (az.sc.take az.hO).all (λp=>MF p.2)&&eB az.hO az.sc.length&&Gn (az.sc.map (·.1))&&eB az.jg.length az.hO&&KO T n fd.defaults az.jg&&mD az.jg
noncomputable def Kq(T:BT)(n:H)(r:H×H×aa H×G D):ah:=ra (λfd=>ra (GH T n fd) (xw PP r.2)) (Lw T n r.1)
noncomputable def xy(T:BT)(n:H)(r:H×H×aa H×G D):aa (FuncBody×G (ar×dc)):=(Lw T n r.1).map λfd=>(fd.body,fd.scope.names)
noncomputable def xt(r:H×H×aa H×G D):aa (FuncBody×G (ar×dc)):=(xw PP r.2).map λaz=>(.stmts az.body,az.sc)
noncomputable def atT(T:BT)(n a:H):b8:=(mL T n a).toList.map λE=>(a,E)
noncomputable def aaI(T:BT)(n a:H):b8:=((mL T n a).bind TL).toList.flatMap λcd=>atT T n cd.ns
noncomputable def Ah(T:BT)(n:H):b8:=zU.flatMap (λp=>atT T n p.1++aaI T n p.1)++mw.flatMap λr=>atT T n r.1
noncomputable def Kp(K:b8):ah:=(zU.all λp=>xa K p.2.2 p.1 p.2.1&&keepIn K (.ref p.1))&&mw.all λr=>keepIn K (.ref r.1)
noncomputable def zR(T:BT)(n:H):ah:=ra (λeg=>ra (λeb=>Am.all (Kr T n eg eb)) (GC T n qH)) (GC T n mB)&&mw.all (Kq T n)&&Kp (Ah T n)&&(mL T n tK).isSome
noncomputable abbrev aeN:C8->aa nT:=PySem.W.Fast.tw14364793385576792824
noncomputable def yH(w:rY)(mF:H)(mZ:aa aw):H->qE->Thread->aa qE
 |0,_,_=>none
 |n+1,s,t=>match through t with
  |true=>some s
  |false=>match PySem.W.Fast.tw6613529449190102663 mF mZ t with
   |false=>none
   |true=>match PySem.W.Fast.tw10156331382660048174 (PySem.W.Fast.tw11892475500146522536 aeN) PP w s t with
    |some (s',t')=>yH w mF mZ n s' t'
    |none=>none
noncomputable def Ti(w:rY):BT:=(fZ 11).foldl (λT i=>T.ins i ((r8 w.params).objs[i]!)) BT.nil
noncomputable def Oq(w:rY)(os:CR):qE:=⟨Ti w,11,{},#[],boot_drawn,boot_toks,os⟩
noncomputable def Lg(w:rY)(os:CR):aa qE:=yH w 11 (some (.ref 6)) 4200 (Oq w os) (topStub PP)
noncomputable def qv:a_:=PySem.W.view PP [62]
noncomputable def loose:G ar:=PP.boundNames
noncomputable def WI(w:rY)(E:aa qE):=E.map λs=>
 (openSeen qv loose (Fe PP.main.body) (λ_=>true) true s.abs,
  (staticsOk (Fe PP.main.body) (r8 w.params) s.abs.heap&&namesBound PP s.abs.heap&&gensDone s.abs&&laidKept (r8 w.params) s.abs.heap),
  mw.map (xy s.tree s.n),zR s.tree s.n)
noncomputable def WK:=some (openGood qv loose,true,mw.map xt,true)
theorem WL:∀(w:rY) (os:CR),WI w (Lg w os)=WK:=λw os=>by kernel_rfl
theorem boot_abs(w:rY)(os:CR):(Oq w os).abs=⟨r8 w.params,IU [],boot_drawn,boot_toks,os⟩:=by kernel_rfl
theorem Tj(w:rY):((r8 w.params).isNs mB&&(IU []:dS GenState).size==0,(r8 w.params).objs.size,(r8 w.params).nsMap mB "__annotations__")=(true,11,some (.ref 6)):=by kernel_rfl
theorem abb:opening PP=plainProg PP.main.scope.names:=by kernel_rfl
theorem Vr:∀s,fenceModules? PP s=some s:=λs=>by kernel_rfl
theorem YO:n8.wellSaid=true:=by
 rw [Fast.te9446332074065402090]
 iterate 18 refine F7 ?_ (by as_aux_lemma=>kernel_rfl)
 iterate 2 refine F7 ?_ (by as_aux_lemma=>kernel_rfl)
 iterate 13 refine F7 ?_ (by as_aux_lemma=>kernel_rfl)
 iterate 5 refine F7 ?_ (by as_aux_lemma=>kernel_rfl)
 kernel_rfl
theorem YL:n8.row.toRowW.promised:=⟨[.list []],by kernel_rfl,by kernel_rfl⟩
theorem YH:PP.bare:=⟨rfl,rfl,rfl,rfl,rfl,by kernel_rfl⟩
theorem YK:(chainsOk qv&&opensWell PP&&(frees n8.row.toRowW&&n8.row.within.isEmpty))=true:=by kernel_rfl
theorem YJ:(!PySem.Challenge.rw_pq0710_01.row.writes||n8.row.records.isEmpty)=true:=by kernel_rfl
noncomputable def FO:aa (DefRec×G (ar×JH)):=defOf qv n8.row.name
theorem YF:(FO.map λd=>(PP.theDef n8.row.name,kwWritten? d.1.params.kwonlyargs d.1.params.kw_defaults))=FO.map λd=>(some (d.1.params,d.1.body,d.1.scope),some d.2):=by kernel_rfl
theorem YG:FO.isSome=true:=by kernel_rfl
theorem ael(w:dF)(mF:H)(mZ:aa aw)(n:H)(s:qE)(t:Thread):yH w mF mZ (n+1) s t=match through t with
 |true=>some s
 |false=>match stepOk mF mZ t with
  |false=>none
  |true=>match stepT (denote B0) PP w s t with
   |some (s',t')=>yH w mF mZ n s' t'
   |none=>none:=by
 rw [Fast.te6613529449190102663,Fast.te10156331382660048174,Fast.te11892475500146522536,Fast.te14364793385576792824];rfl
theorem aem(n:H):∀(s:qE) (t:Thread) (r:qE),yH w mF mZ n s t=some r->topRun B0 PP w mF mZ n s.abs t=some r.abs:=by
 induction n with
 |zero=>exact λ_ _ _ h=>aB h
 |succ n O=>
  intro s t r h
  rw [ael] at h
  unfold topRun
  generalize ht:through t=ax at h
  cases ax with
  |true=>exact cq (some ·.abs) (aM h)
  |false=>
   generalize hk:stepOk mF mZ t=ax at h
   cases ax with
   |false=>exact aB h
   |true=>
    generalize hs:stepT (denote B0) PP w s t=ax at h
    cases ax with
    |none=>exact aB h
    |some p=>rw [stepT_spec (t':=p.2) (s':=p.1) hs];exact O _ _ _ h
noncomputable def n_(T:BT)(n:H)(h:aP):Prop:=∀a E,mL T n a=some E->h.get? a=some E
theorem aek:n_ T n (absHeap T n agK):=λa E e=>by
 unfold mL at e
 generalize lt:dB a n=ax at e
 cases ax with
 |true=>
  generalize g:T.get a=ax at e
  cases ax with
  |some o'=>rw [abs_get (dw lt) g];exact e
  |none=>exact aB e
 |false=>exact aB e
section
variable{c:a_}{w:WB}{T:BT}{n:H}{h:aP}
theorem vH{α:Type}{f:α->ah}{E:aa α}(e:ra f E=true):∃a,E=some a/\f a=true:=by
 cases E with
 |none=>nomatch e
 |some a=>exact⟨a,rfl,e⟩
theorem Ox(e:Hx s E=true):E=some s:=by
 cases E with
 |none=>nomatch e
 |some t=>have e:seq s t=true:=e;rw [lV.mp e]
theorem Vq(e:En E=some fd):E.data=.func fd:=by
 unfold En at e
 generalize h:E.data=ax at e
 cases ax with
 |func f=>rw [aM e]
 |_=>nomatch e
theorem Vd(e:Ef E=some R):∃ep,E.data=.dict R ep:=by
 unfold Ef at e
 generalize h:E.data=ax at e
 cases ax with
 |dict f ep=>exact⟨ep,by rw [aM e]⟩
 |_=>nomatch e
theorem PM(e:B8 E=some V):∃ep,E.data=.seq V.toArray ep:=by
 unfold B8 at e
 generalize h:E.data=ax at e
 cases ax with
 |seq f ep=>exact⟨ep,by rw [<-aM e]⟩
 |_=>nomatch e
theorem VH(e:Er E=some V):E.data=.fields V:=by
 unfold Er at e
 generalize h:E.data=ax at e
 cases ax with
 |fields f=>rw [aM e]
 |_=>nomatch e
theorem aeW(e:Ik E=some V):∃ep,E=kX V.toArray ep:=by
 unfold Ik at e
 obtain⟨q,e⟩:=bI e
 obtain⟨q,q3⟩:=aN.mp q
 obtain⟨q1,q2⟩:=aN.mp q
 obtain⟨ep,hd⟩:=PM e
 obtain⟨I,d,dt,sl⟩:=E
 exact⟨ep,by rw [show I=_ from qG.mp q1,show d=_ from RB.mp q2,show dt=_ from hd,show sl=#[] from Array.isEmpty_iff.mp q3]⟩
theorem Hn(e:Bw v=some a):v=.ref a:=by
 cases v with
 |ref b=>rw [aM e]
 |_=>nomatch e
theorem XU(e:Mv v=some a):∃t,v=.int a t:=by
 cases v with
 |int b t=>exact⟨t,by rw [aM e]⟩
 |_=>nomatch e
theorem OY(e:HO v=some a):∃t,v=.str a t:=by
 cases v with
 |str b t=>exact⟨t,by rw [aM e]⟩
 |_=>nomatch e
theorem oi{α β:Type}{E:aa α}{f:α->aa β}{b:β}(e:E.bind f=some b):∃a,E=some a/\f a=some b:=uj.mp e
theorem NQ(k:n_ T n h){a:H}{R:dS tU}(e:GC T n a=some R){m:ar->aa aw}(x:h.Ns a m)(y:ar):Be R y=m y:=by
 obtain⟨E,q,e⟩:=oi e
 obtain⟨ep,hd⟩:=Vd e
 obtain⟨o',dD,U4,ho,uQ,_,hf⟩:=x
 have eo:=aM ((k _ _ q).symm.trans ho)
 have z:=(Data.dict.inj (hd.symm.trans ((cq Obj.data eo).trans uQ))).1
 rw [z];exact hf y
theorem Kt(q:∀m v,f m v=true->VR c w [] [] h m v)(B:G D):∀r:G aw,zT f B r=true->aW c w [] [] h B r:=by
 induction B with
 |nil=>
  intro r e
  cases r with
  |nil=>exact .nil
  |cons=>exact bz e
 |cons m B O=>
  intro r e
  cases r with
  |nil=>exact bz e
  |cons v r=>exact .cons (q m v (aN.mp e).1) (O r (aN.mp e).2)
theorem Ks(k:n_ T n h)(i:H):∀(m:D) (v:aw),zS T n i m v=true->VR c w [] [] h m v:=by
 induction i with
 |zero=>exact λ_ _ e=>bz e
 |succ i O=>
  intro m v e
  cases m with
  |str z=>exact⟨OY (Ox (aN.mp e).1),(aN.mp e).2⟩
  |int j=>exact XU (NS e)
  |tup B=>
   obtain⟨V,q,I⟩:=vH e
   obtain⟨a,q1,q⟩:=oi q
   obtain⟨E,q2,q⟩:=oi q
   obtain⟨ep,q3⟩:=aeW q
   exact⟨a,_,ep,Hn q1,⟨eP,eP⟩,q3▸k _ _ q2,Kt O _ _ I⟩
  |none=>exact pI e
  |bool b=>exact pI e
  |fn a=>exact pI e
  |bi b=>exact pI e
  |_=>exact bz e
theorem TK(k:n_ T n h){mg mb:ar->aa aw}{eg eb:dS tU}(hg:∀y,Be eg y=mg y)(hb:∀y,Be eb y=mb y)(e:Kr T n eg eb (x,m)=true):Ck c w h mg mb x m/\j6 m=true:=by
 obtain⟨a,e⟩:=aN.mp e
 refine⟨?_,a⟩
 dsimp only at e
 rw [hg] at e
 generalize q:mg x=ax at e
 cases ax with
 |some v=>exact .inl ⟨v,q,Ks k _ _ _ e⟩
 |none=>
  obtain⟨v,q2,e⟩:=vH e
  cases m with
  |bi b=>exact .inr ⟨q,b,rfl,(hb x).symm.trans (q2.trans (cq some (qG.mp e)))⟩
  |_=>nomatch e
theorem acT(B:G ar):∀r:G ar,Hr B r=true->B=r:=by
 induction B with
 |nil=>
  intro r e
  cases r with
  |nil=>rfl
  |cons=>exact bz e
 |cons a B O=>
  intro r e
  cases r with
  |nil=>exact bz e
  |cons b r=>
   obtain⟨x,y⟩:=aN.mp e
   rw [seq_eq] at x
   rw [NS x,O r y]
theorem aaj(B:G ar)(e:Gn B=true):B.Nodup:=by
 induction B with
 |nil=>exact .nil
 |cons a B O=>
  obtain⟨x,y⟩:=aN.mp e
  refine ic.mpr ⟨λhm=>?_,O y⟩
  have:=l9.mp x a hm
  rw [seq_eq,ix rfl] at this
  exact bz this
theorem TR(k:n_ T n h){cd:aw}{q:ar}(e:Kx T n cd q=true):h.CodeRec cd q:=by
 obtain⟨I,h1,e⟩:=oi (Ox e)
 obtain⟨E,h2,e⟩:=oi e
 obtain⟨V,h3,e⟩:=oi e
 obtain⟨v,h4,e⟩:=oi e
 obtain⟨t,h5⟩:=OY e
 exact⟨I,E,V,t,Hn h1,k _ _ h2,VH h3,h4.trans (cq some h5)⟩
theorem T6(k:n_ T n h){d:aw}{B:G D}(e:KO T n d B=true):∃dv,((d=.none/\dv=[])\/∃T E n,d=.ref T/\h.get? T=some E/\E.data=.seq dv.toArray n)/\aW c w [] [] h B dv:=by
 rcases k_.mp e with e|e
 .obtain⟨a,b⟩:=aN.mp e
  rw [Jn.mp b];exact⟨[],.inl ⟨qG.mp a,rfl⟩,.nil⟩
 .obtain⟨V,q,I⟩:=vH e
  obtain⟨a,q1,q⟩:=oi q
  obtain⟨E,q2,q⟩:=oi q
  obtain⟨ep,q3⟩:=PM q
  exact⟨V,.inr ⟨a,E,ep,Hn q1,k _ _ q2,q3⟩,Kt (Ks k 8) _ _ I⟩
theorem X6(e:MA k=true):k=.function:=by
 cases k<;>first|rfl|nomatch e
theorem aa2(k:n_ T n h)(ho:h.get? a=some E)(hd:E.data=.func fd)(e:GH T n fd az=true)(hv:fd.body=.stmts az.body/\fd.scope.names=az.sc):(∃E fd dv,nX c w h a az E fd dv)/\mD az.jg=true:=by
 unfold GH at e
 obtain⟨e,Uz⟩:=aN.mp e
 obtain⟨e,e9⟩:=aN.mp e
 obtain⟨e,e8⟩:=aN.mp e
 obtain⟨e,e7⟩:=aN.mp e
 obtain⟨e,e6⟩:=aN.mp e
 obtain⟨e,e5⟩:=aN.mp e
 obtain⟨e,e4⟩:=aN.mp e
 obtain⟨e,e3⟩:=aN.mp e
 obtain⟨e1,e2⟩:=aN.mp e
 obtain⟨dv,d1,d2⟩:=T6 (c:=c) (w:=w) k e9
 exact⟨⟨E,fd,dv,ho,hd,TR k e1,e2,X6 e3,hv.1,hv.2,acT _ _ e4,e5,dw e6,aaj _ e7,dw e8,d1,d2⟩,Uz⟩
theorem TJ(k:n_ T n h){r:H×H×aa H×G D}{az:Fn}(e:Kq T n r=true)(hG:xw PP r.2=some az)(hv:xy T n r=xt r):(∃E fd dv,nX c w h r.1 az E fd dv)/\mD az.jg=true:=by
 obtain⟨fd,q,e⟩:=vH e
 rw [hG] at e
 unfold xy xt at hv
 rw [hG,q] at hv
 obtain⟨E,q1,q2⟩:=oi q
 exact aa2 k (k _ _ q1) (Vq q2) e (iS (aM hv))
theorem Di(e:(b,E)∈atT T n a):mL T n b=some E:=by
 obtain⟨o',h1,h2⟩:=cF.mp e
 obtain⟨rfl,rfl⟩:=iS h2
 exact Option.mem_toList.mp h1
theorem V2(e:(b,E)∈Ah T n):mL T n b=some E:=by
 rcases dI.mp e with e|e
 .obtain⟨p,_,e⟩:=mc.mp e
  rcases dI.mp e with e|e
  .exact Di e
  .obtain⟨cd,_,e⟩:=mc.mp e
   exact Di e
 .obtain⟨p,_,e⟩:=mc.mp e
  exact Di e
theorem Zc{K:b8}(e:K.lookup a=some E):(a,E)∈K:=by
 induction K with
 |nil=>nomatch e
 |cons p r O=>
  rw [jM] at e
  generalize q:(a==p.1)=ax at e
  cases ax with
  |true=>rw [aM e.symm,qG.mp q];exact QY ..
  |false=>exact QX _ (O e)
theorem V1(k:n_ T n h):(Ah T n).In h:=λa E e=>k a E (V2 (Zc e))
theorem Gv{α:Type}{B:G (H×α)}{a:α}(e:yg B x=some a):(x,a)∈B:=by
 induction B with
 |nil=>exact aB e
 |cons p B O=>
  have e:@bN (λ_=>aa α) (yg B x) (some p.2) (bA p.1 x)=some a:=e
  generalize q:bA p.1 x=ax at e
  cases ax with
  |true=>
   rw [<-(aM e:p.2=a),<-dU q];exact QY ..
  |false=>exact QX _ (O e)
theorem LG{a:H}(e:cz.fn a=some az):∃x,(a,x)∈mw/\xw PP x=some az:=by
 have e:fnIn PP a=some az:=e
 unfold fnIn at e
 generalize q:yg mw a=ax at e
 cases ax with
 |some x=>exact⟨x,Gv q,e⟩
 |none=>exact aB e
end
noncomputable def YT(h:aP):Prop:=∃T n,zR T n=true/\mw.map (xy T n)=mw.map xt/\n_ T n h
theorem YT.keeps(x:YT h)(k:∀b E,h.get? b=some E->M.get? b=some E):YT M:=let⟨T,n,a,b,I⟩:=x;⟨T,n,a,b,λd E e=>k _ _ (I d E e)⟩
theorem SH{w:dF}{h:aP}(g9:YT h)(ng:h.Ns mB mg)(nb:h.Ns qH mb)(nl:h.NoLimit):∃K,Base PP w K cz h mg mb/\∀v,mg n8.name=some v->v=.ref 659:=by
 obtain⟨T,n,I,fv,k⟩:=g9
 unfold zR at I
 simp only [tR] at I
 obtain⟨⟨⟨c1,c2⟩,c3⟩,c4⟩:=I
 obtain⟨eg,q1,c1⟩:=vH c1
 obtain⟨eb,q2,c1⟩:=vH c1
 have fg:=λx m (e:(x,m)∈Am)=>TK (c:=PP) (w:=w0 w) k (NQ k q1 ng) (NQ k q2 nb) (l9.mp c1 (x,m) e)
 unfold Kp at c3
 obtain⟨c5,c6⟩:=aN.mp c3
 have hc:=λp (e:p∈zU)=>aN.mp (l9.mp c5 p e)
 refine⟨Ah T n,⟨V1 k,ng,nb,nl,?_,λx m e=>fg x m (qF e),λaq p e=>(hc (aq,p) (Gv e)).1,λa e=>?_,λa az e=>?_⟩,λv e=>?_⟩
 .obtain⟨E,ho⟩:=JC.mp c4
  exact⟨E,k _ _ ho⟩
 .unfold r9 at e
  dsimp only at e
  generalize q:cz.fn a=ax at e
  cases ax with
  |some az=>
   obtain⟨x,hx,_⟩:=LG q
   exact l9.mp c6 _ hx
  |none=>
   generalize q:cz.cls a=ax at e
   cases ax with
   |some p=>exact(hc (a,p) (Gv q)).2
   |none=>nomatch e
 .obtain⟨x,hx,hG⟩:=LG e
  exact TJ k (l9.mp c2 _ hx) hG (fU fv _ hx)
 .have:=(fg n8.name (.fn 659) (qF (show g_ Am _=_ by rfl))).1
  rcases this with⟨u,e1,e2⟩|⟨_,b,e2,_⟩
  .rw [e1] at e
   exact(aM e).symm.trans e2
  .nomatch e2
theorem Wz{α β γ δ:Type}{a a':α}{b b':β}{I c':γ}{d d':δ}(e:some (a,b,I,d)=some (a',b',c',d')):a=a'/\b=b'/\I=c'/\d=d':=by
 cases e;exact⟨rfl,rfl,rfl,rfl⟩
theorem aeS{tb:C8->aa nT}{p:a_}{w:dF}{N mF:H}(h1:(oX.heap.isNs mB&&oX.gens.size==0)=true)(h2:oX.heap.objs.size=mF)(h3:oX.heap.nsMap mB "__annotations__" =mZ)
  (h4:topRun tb p w mF mZ N oX (topStub p)=some fX) (h5:(staticsOk (Fe p.main.body) oX.heap fX.heap&&namesBound p fX.heap&&gensDone fX&&laidKept oX.heap fX.heap)=true):topFrom tb p w N oX=some fX:=by
 subst h2;subst h3
 unfold topFrom
 rw [h1,h4]
 dsimp only [Rz]
 rw [h5]
theorem aa8{tb:C8->aa nT}{p:a_}{w:dF}{N:H}(e:fencedOpening tb p w N=some oX)(h:topFrom tb p w N oX=some fX):GP tb p w N=some fX:=by
 unfold GP;rw [e];exact h
theorem Pj(w:dF):∃r:qE,GP B0 PP w 4200=some r.abs/\openSeen qv loose (Fe PP.main.body) (λ_=>true) true r.abs=openGood qv loose/\mw.map (xy r.tree r.n)=mw.map xt/\zR r.tree r.n=true:=by
 obtain⟨⟨h,gs,d,k,os⟩,e,e'⟩:=zt.mp (boot_open (N:=4200) abb (by decide) Vr w)
 obtain⟨rfl,rfl,rfl,rfl⟩:h=r8 w.params/\gs=IU []/\d=boot_drawn/\k=boot_toks:=by
  refine xA (iS e') λa e'=>?_
  refine xA (iS e') λb e'=>?_
  refine xA (iS e') λI e'=>?_
  exact⟨a,b,I,e'⟩
 have hh:=WL w os
 generalize hr:Lg w os=ax at hh
 cases ax with
 |none=>nomatch hh
 |some r=>
  refine eN (Wz hh) λh1 h2 h3 h4=>?_
  have tr:=aem 4200 _ _ _ hr
  rw [boot_abs] at tr
  refine xA (iS (Tj w)) λz1 z=>?_
  refine xA (iS z) λz2 z3=>?_
  exact⟨r,aa8 e (aeS z1 z2 z3 tr h2),h1,h3,h4⟩
noncomputable def heapOf:aa aT->aP
 |some s=>s.heap
 |none=>{}
noncomputable def D9(w:dF):aP:=heapOf (GP B0 PP w 4200)
theorem abc{σ α β:Type}{E:aa σ}{s:σ}{f:σ->α}{g:σ->β}{x:α}{b:β}(e:E=some s)(h:f s=x)(hb:g s=b):E.map (λs=>(f s,g s))=some (x,b):=by
 rw [e,<-h,<-hb];rfl
theorem YI:LeftO PP qv loose (λ_=>true) (λs=>s.heap) D9 4200:=λw=>by
 refine iZ (Pj w) λr e h1 _ _=>?_
 exact abc e h1 (cq heapOf e).symm
theorem UW(w:dF):YT (D9 w):=by
 refine iZ (Pj w) λr e _ h3 h4=>?_
 have q:D9 w=r.abs.heap:=cq heapOf e
 rw [q]
 exact⟨r.tree,r.n,h4,h3,aek⟩
theorem ints_of(e:WShape.hasItems [] xs .int=true):∃ns:G ba,xs=ns.map .int:=by
 induction xs with
 |nil=>exact⟨[],rfl⟩
 |cons x xs O=>
  refine xA (aN.mp e) λa b=>?_
  refine bw (O b) λns q=>?_
  clear O e b
  cases x with
  |int i=>exact⟨i::ns,cq _ q⟩
  |_=>exact bz a
theorem afq(x:WellAll P h V (d::ds)):∃v r,V=v::r/\Well P h v d/\WellAll P h r ds:=by
 cases x with
 |cons a b=>exact⟨_,_,rfl,a,b⟩
theorem afr(x:Well P h v (.int i)):∃t,v=.int i t:=by
 cases x;exact⟨_,rfl⟩
theorem aff(ns:G ba):∀V:G aw,WellAll P h V (ns.map .int)->aW c w [] [] h (ns.map D.int) V:=by
 induction ns with
 |nil=>intro V x;cases x;exact .nil
 |cons n ns O=>
  intro V x
  refine eO (afq x) λv r aE a b=>?_;subst aE
  exact .cons (by exact afr a) (O _ b)
noncomputable abbrev vM:OpenRow:=n8.row
set_option backward.match.sparseCases true in
theorem Su(x:vM.toRowW.claim.pre args=true):∃ns:G ba,args=[.list (ns.map .int)]/\ns.length<=63:=by
 refine xA (pre_splitW x) λa b=>?_
 refine eO (hasAllW_cons a) λd r aE h1 h2=>?_;subst aE
 cases hasAllW_nil h2
 cases d with
 |list xs=>
  have h1:(WShape.hasItems [] xs .int||false)=true:=h1
  rw [qr] at h1
  refine bw (ints_of h1) λns aI=>?_;obtain rfl:=aI.symm
  refine⟨ns,rfl,?_⟩
  by_cases q:(63:ba)<((ns.map WData.int).length:ba)
  .have:vM.toRowW.pre.holds [] {args:=[.list (ns.map .int)]}=false:=by
    refine(?_:(match (match (match some (WData.bool (decide ((63:ba)<((ns.map WData.int).length:ba)))) with|some (.bool b)=>some (WData.bool (!b))|_=>none) with|some (.bool false)=>some (WData.bool false)|some (.bool true)=>_|_=>none) with|some (.bool true)=>true|_=>false)=false)
    rw [ix q]
    rfl
   nomatch (this.symm.trans b)
  .rw [cZ] at q;lia
 |_=>nomatch h1
theorem YN(hd:d.name=vM.name):WalkO qv loose (λ_ _=>jz) (λ_ h=>YT h) vM.toRowW d MX λf V=>PySem.call f V:=by
 intro w oX fX mg mb az g9 a E pm cd agd dV kV e1 e2 e3 e4 e5 hg args iM as pre agJ reads afp low
 refine ay (SH (w:=w) g9 az.T.g az.T.b az.T.nolimit) λK aV Wk=>?_
 have ea:a=659:=JR (Wk _ (show mg vM.name=some (og a) by rw [<-hd];exact e5))
 rw [ea]
 refine ay (Su pre) λns aI hl=>?_;subst aI
 obtain⟨v,rfl,wl⟩:∃v,iM=[v]/\Well w.params fX.heap v (.list (ns.map .int)):=by
  cases afp with
  |cons x y=>cases y;exact⟨_,rfl,x⟩
 cases wl with
 |list ho wa=>
  have room:eY 340 callerA:=⟨rfl,by decide,by decide⟩
  have S:St PP (wb PP w (aU aH)) fX.heap [] [] ⟨.nil,0⟩ fX.heap:=⟨λb E e=>⟨e,eP⟩,rfl,.nil,(λa q=>nomatch q),(λi a q=>nomatch q)⟩
  refine YM aV hl room S (v:=_) ?_ _ _ λu ao M tk st p=>?_
  .exact⟨_,_,_,rfl,⟨eP,eP⟩,ho,by rw [cZ];exact hl,by decide,aff _ _ wa⟩
  .subst p
   exact⟨.inl ⟨.bool true,.bool true,[],rfl,λ_=>rfl,.bool true,by kernel_rfl,λ_=>⟨.nil,λa q=>nomatch q⟩⟩,.of_keep λb E e=>st.keep b E e eP eP,rfl,.of_eq hg⟩
theorem law_holds:n8.Holds:=by
 obtain⟨⟨d,MX⟩,hd⟩:=JC.mp YG
 have h:=YF
 rw [hd] at h
 refine xA (iS (aM h)) λhp hk=>?_
 exact holds_law YO λac1=>holds_open (r:=vM) (d:=d) (kwd:=MX) (XP:=λ_ _=>jz) (YP:=λ_ h=>YT h) YI (λw s e=>by rw [e];exact UW w) (λ_ _ _=>YT.keeps) (λ_ _=>trivial) (λ_ _ _ _ _=>trivial) hd hp hk
  (λs _=>recFacts_of rfl) YJ ac1 YK YH YL (YN (defOf_name hd))
end Mine.Internal
theorem PySem.Challenge.cw_pq0710_01_holds : PySem.Challenge.rw_pq0710_01.Holds := by
  exact Mine.Internal.law_holds
